import PyProof.Rows.All
import Wide.All
import OpenK.AllK
import Wide.FinOn
import HandS.ForMost
import HandS.ForExc
import HandS.TryMany
import HandS.CallSlots
import HandS.Defaults
import HandS.Lambda
import HandS.Style
import HandS.TupAny
import HandS.TupMul
import HandS.Wide
import HandS.IsInst
import PyProof.StrOps2
import PyProof.Rows.RuleB_pow
import KE.GoesMore
import HandS.Zip
import HandS.Star
import HandS.ExcOwn
import HandS.HeadHook1
import HandS.HeadHook2
import PyProof.ExcBaseAll.ValueError
import HandS.Property
import HandS.ClsMeth
import HandS.Slots
import HandS.SlotsOwn
import HandS.HeadNt
import PyProof.InstEq
import HandS.FStr
import HandS.RaiseMore
import KE.KCallOwn
import HandS.MakeKwOnly
import HandS.Iter
import KE.KStateDown
import HandS.Base
import HandS.Call
import HandS.Ends
import HandS.More
import HandS.Words
import HandS.WordsExc
import HandS.EndTab
import HandS.Head0
import HandS.Head1
import HandS.Head2
import HandS.HeadEnd
import HandS.HeadHook3
import HandS.HeadHook4
import PySem.Challenge.RW_signedcounts_k04_whole_words_by_cancelli
set_option linter.all false
set_option Elab.async false
set_option maxRecDepth 100000
set_option maxHeartbeats 2000000
/-! MM: deep data, an environment of slots, and mirrors of expressions and statements as plain functions, over the hand layer's judgements -/
namespace MM
open PySem PySem.Spec PyProof.Rows L2

/-! ### deep data -/
inductive D where
  | non | bl (b : Bool) | int (i : Int) | str (l : List Nat)
  | lst (l : List D) | tup (l : List D)
  | dic (l : List (Key × D))
  | ins (c : Str) (l : List (Str × D))
  /-- an own class -/
  | cls (c : Str)
  /-- a list that is only read (the script) -/
  | ro (l : List D)
  deriving Inhabited
/-- the written part, where the classes stand -/
structure GG where
  K : PySem.W.Frag
  cls : Str → Option Addr
  T : List (Addr × Str) := []
/-- what is kept of a raised exception: its class, its fields -/
structure Exn where
  c : Str
  fs : List (Str × D)
/-- a slot: unknown; data that never changes; an object of the def's own; a caller's object that the def may change -/
inductive S where
  | un | d (x : D) | o (x : D) | p (x : D)
  deriving Inhabited
def S.own : S → Option D
  | .o x => some x
  | .p x => some x
  | _ => none
/-- a value: data, a slot's object, a new object that nobody holds -/
inductive RV where
  | d (x : D) | r (i : Nat) | f (x : D)
inductive R (α : Type) where
  | ok (a : α) (ρ : List S) | ex (e : Exn) (ρ : List S) | bad
abbrev Ex := List S → R RV
inductive Out where
  | nx (ρ : List S) | rt (r : RV) (ρ : List S) | bk (ρ : List S) | ct (ρ : List S) | ex (e : Exn) (ρ : List S) | bad
abbrev Sm := List S → Out
inductive FO where
  | rt (r : RV) (ρ : List S) | ex (e : Exn) (ρ : List S) | bad
abbrev Fn := List S → FO

/-! ### how data lies in the frozen heap F -/
mutual
inductive Rep (G : GG) (F : Hp) : V → D → Prop
  | non : Rep G F .non .non
  | bl (b : Bool) : Rep G F (.bl b) (.bl b)
  | int (i : Int) : Rep G F (.int i) (.int i)
  | str {x : Str} {l : List Nat} : x.cps.toList = l → Rep G F (.str x) (.str l)
  | lst {a : Addr} {xs : List V} {ds : List D} : F a = some (.lst xs) → RepA G F xs ds → Rep G F (.ref a) (.lst ds)
  | ro {a : Addr} {xs : List V} {ds : List D} : SqL G.K F a xs → RepA G F xs ds → Rep G F (.ref a) (.ro ds)
  | tup {a : Addr} {xs : List V} {ds : List D} : SqT G.K F a xs → RepA G F xs ds → Rep G F (.ref a) (.tup ds)
  | dic {a : Addr} {kvs : List (Key × V)} {es : List (Key × D)} : F a = some (.dK kvs) → RepK G F kvs es → Rep G F (.ref a) (.dic es)
  | ins {a C dx : Addr} {c : Str} {fs : List (Str × V)} {es : List (Str × D)} : G.cls c = some C → F a = some (.ins C dx fs) → RepF G F fs es → Rep G F (.ref a) (.ins c es)
  | cls {C : Addr} {c : Str} : G.cls c = some C → Rep G F (.ref C) (.cls c)
inductive RepA (G : GG) (F : Hp) : List V → List D → Prop
  | nil : RepA G F [] []
  | cons {v : V} {vs : List V} {d : D} {ds : List D} : Rep G F v d → RepA G F vs ds → RepA G F (v :: vs) (d :: ds)
inductive RepK (G : GG) (F : Hp) : List (Key × V) → List (Key × D) → Prop
  | nil : RepK G F [] []
  | cons {k : Key} {v : V} {vs : List (Key × V)} {d : D} {ds : List (Key × D)} : Rep G F v d → RepK G F vs ds → RepK G F ((k, v) :: vs) ((k, d) :: ds)
inductive RepF (G : GG) (F : Hp) : List (Str × V) → List (Str × D) → Prop
  | nil : RepF G F [] []
  | cons {k : Str} {v : V} {vs : List (Str × V)} {d : D} {ds : List (Str × D)} : Rep G F v d → RepF G F vs ds → RepF G F ((k, v) :: vs) ((k, d) :: ds)
end
section
variable {G : GG} {F F' H : Hp}
theorem sqT_same {K : PySem.W.Frag} {H H' : Hp} {a : Addr} {xs : List V} (e : Same H H') (h : SqT K H a xs) : SqT K H' a xs := by
  rcases h with (h | ⟨o, h⟩) | h
  · exact .inl (.inl (e _ _ h))
  · exact .inl (.inr ⟨o, e _ _ h⟩)
  · exact .inr h
mutual
theorem Rep.mono (s : Same F F') : ∀ {v : V} {x : D}, Rep G F v x → Rep G F' v x
  | _, _, .non => .non
  | _, _, .bl b => .bl b
  | _, _, .int i => .int i
  | _, _, .str e => .str e
  | _, _, .lst h r => .lst (s _ _ h) (RepA.mono s r)
  | _, _, .ro h r => .ro (s.seq h) (RepA.mono s r)
  | _, _, .tup h r => .tup (sqT_same s h) (RepA.mono s r)
  | _, _, .dic h r => .dic (s _ _ h) (RepK.mono s r)
  | _, _, .ins c h r => .ins c (s _ _ h) (RepF.mono s r)
  | _, _, .cls c => .cls c
theorem RepA.mono (s : Same F F') : ∀ {v : List V} {x : List D}, RepA G F v x → RepA G F' v x
  | _, _, .nil => .nil
  | _, _, .cons h r => .cons (h.mono s) (RepA.mono s r)
theorem RepK.mono (s : Same F F') : ∀ {v : List (Key × V)} {x : List (Key × D)}, RepK G F v x → RepK G F' v x
  | _, _, .nil => .nil
  | _, _, .cons h r => .cons (h.mono s) (RepK.mono s r)
theorem RepF.mono (s : Same F F') : ∀ {v : List (Str × V)} {x : List (Str × D)}, RepF G F v x → RepF G F' v x
  | _, _, .nil => .nil
  | _, _, .cons h r => .cons (h.mono s) (RepF.mono s r)
end
theorem RepA.length : ∀ {vs : List V} {ds : List D}, RepA G F vs ds → vs.length = ds.length
  | _, _, .nil => rfl
  | _, _, .cons _ r => congrArg Nat.succ r.length
theorem RepA.get : ∀ {vs : List V} {ds : List D} {i : Nat} {x : D}, RepA G F vs ds → ds[i]? = some x → ∃ v, vs[i]? = some v ∧ Rep G F v x
  | _, _, _, _, .nil, h => by simp at h
  | _, _, 0, _, .cons (v := v) h _, e => by
    simp at e; subst e
    exact ⟨v, rfl, h⟩
  | _, _, i + 1, _, .cons _ r, e => by
    obtain ⟨v, h1, h2⟩ := r.get (i := i) (by simpa using e)
    exact ⟨v, by simpa using h1, h2⟩
theorem RepA.getV : ∀ {vs : List V} {ds : List D} {i : Nat} {v : V}, RepA G F vs ds → vs[i]? = some v → ∃ x, ds[i]? = some x ∧ Rep G F v x
  | _, _, _, _, .nil, h => by simp at h
  | _, _, 0, _, .cons (d := d) h _, e => by
    simp at e; subst e
    exact ⟨d, rfl, h⟩
  | _, _, i + 1, _, .cons _ r, e => by
    obtain ⟨v, h1, h2⟩ := r.getV (i := i) (by simpa using e)
    exact ⟨v, by simpa using h1, h2⟩
theorem RepA.append : ∀ {vs us : List V} {ds es : List D}, RepA G F vs ds → RepA G F us es → RepA G F (vs ++ us) (ds ++ es)
  | _, _, _, _, .nil, s => s
  | _, _, _, _, .cons h r, s => .cons h (r.append s)
theorem RepA.set : ∀ {vs : List V} {ds : List D} {v : V} {x : D} (i : Nat), RepA G F vs ds → Rep G F v x → RepA G F (vs.set i v) (ds.set i x)
  | _, _, _, _, _, .nil, _ => .nil
  | _, _, _, _, 0, .cons _ r, s => .cons s r
  | _, _, _, _, i + 1, .cons h r, s => .cons h (RepA.set i r s)
theorem RepA.take : ∀ {vs : List V} {ds : List D} (n : Nat), RepA G F vs ds → RepA G F (vs.take n) (ds.take n)
  | _, _, 0, _ => .nil
  | _, _, _ + 1, .nil => .nil
  | _, _, n + 1, .cons h r => .cons h (RepA.take n r)
theorem RepA.drop : ∀ {vs : List V} {ds : List D} (n : Nat), RepA G F vs ds → RepA G F (vs.drop n) (ds.drop n)
  | _, _, 0, r => r
  | _, _, _ + 1, .nil => .nil
  | _, _, n + 1, .cons _ r => RepA.drop n r
theorem RepA.ones {v : V} {x : D} (h : Rep G F v x) : RepA G F [v] [x] := .cons h .nil
theorem RepA.reverse : ∀ {vs : List V} {ds : List D}, RepA G F vs ds → RepA G F vs.reverse ds.reverse
  | _, _, .nil => .nil
  | _, _, .cons h r => by
    rw [List.reverse_cons, List.reverse_cons]
    exact r.reverse.append (.ones h)
theorem RepA.eraseIdx : ∀ {vs : List V} {ds : List D} (i : Nat), RepA G F vs ds → RepA G F (vs.eraseIdx i) (ds.eraseIdx i)
  | _, _, _, .nil => .nil
  | _, _, 0, .cons _ r => r
  | _, _, i + 1, .cons h r => .cons h (RepA.eraseIdx i r)
theorem RepA.dropLast {vs : List V} {ds : List D} (h : RepA G F vs ds) : RepA G F vs.dropLast ds.dropLast := by
  rw [List.dropLast_eq_take, List.dropLast_eq_take, h.length]
  exact h.take _
end

/-! ### an object that may change -/
def OwnAt (G : GG) (F H : Hp) (a : Addr) : D → Prop
  | .lst ds => ∃ xs, H a = some (.lst xs) ∧ RepA G F xs ds
  | .dic es => ∃ kvs, H a = some (.dK kvs) ∧ RepK G F kvs es
  | .ins c es => ∃ C dx fs, G.cls c = some C ∧ H a = some (.ins C dx fs) ∧ RepF G F fs es
  | _ => False
theorem OwnAt.mono {G : GG} {F F' H H' : Hp} {a : Addr} {x : D} (h : OwnAt G F H a x) (s : Same F F') (e : H' a = H a) : OwnAt G F' H' a x := by
  cases x with
  | lst ds =>
    obtain ⟨xs, h1, h2⟩ := h
    exact ⟨xs, e.trans h1, h2.mono s⟩
  | dic es =>
    obtain ⟨xs, h1, h2⟩ := h
    exact ⟨xs, e.trans h1, h2.mono s⟩
  | ins c es =>
    obtain ⟨C, dx, fs, h0, h1, h2⟩ := h
    exact ⟨C, dx, fs, h0, e.trans h1, h2.mono s⟩
  | _ => exact h.elim
theorem OwnAt.there {G : GG} {F H : Hp} {a : Addr} {x : D} (h : OwnAt G F H a x) : ∃ o, H a = some o := by
  cases x with
  | lst ds => exact ⟨_, h.choose_spec.1⟩
  | dic es => exact ⟨_, h.choose_spec.1⟩
  | ins c es =>
    obtain ⟨C, dx, fs, h0, h1, h2⟩ := h
    exact ⟨_, h1⟩
  | _ => exact h.elim
theorem OwnAt.kind {G : GG} {F H : Hp} {a : Addr} {x : D} {o : HO} (h : OwnAt G F H a x) (e : H a = some o) : (∀ ps, o ≠ .tbl ps) ∧ ∀ φ, o ≠ .ext φ := by
  cases x with
  | lst ds =>
    obtain ⟨xs, h1, h2⟩ := h
    rw [h1] at e; cases e
    exact ⟨fun _ z => by (cases z), fun _ z => by (cases z)⟩
  | dic es =>
    obtain ⟨xs, h1, h2⟩ := h
    rw [h1] at e; cases e
    exact ⟨fun _ z => by (cases z), fun _ z => by (cases z)⟩
  | ins c es =>
    obtain ⟨C, dx, fs, h0, h1, h2⟩ := h
    rw [h1] at e; cases e
    exact ⟨fun _ z => by (cases z), fun _ z => by (cases z)⟩
  | _ => exact h.elim
/-- nothing stands there, or a table of code -/
def Nw (H : Hp) (a : Addr) : Prop := ∀ o, H a = some o → ∃ ps, o = .tbl ps
theorem Nw.of {H : Hp} {a : Addr} (h : H a = none) : Nw H a := fun o e => by rw [h] at e; cases e
theorem OwnAt.nw {G : GG} {F H : Hp} {a : Addr} {x : D} (h : OwnAt G F H a x) (n : Nw H a) : False := by
  obtain ⟨o, e⟩ := h.there
  obtain ⟨ps, z⟩ := n o e
  exact (h.kind e).1 ps z
/-- it is data from now on -/
theorem OwnAt.rep {G : GG} {F H : Hp} {a : Addr} {x : D} (h : OwnAt G F H a x) (n : F a = none) : ∃ o, H a = some o ∧ Rep G (upd F a o) (.ref a) x := by
  cases x with
  | lst ds =>
    obtain ⟨xs, h1, h2⟩ := h
    exact ⟨_, h1, .lst upd_same (h2.mono fun b o e => by rw [upd_ne (ne_of_none e n)]; exact e)⟩
  | dic es =>
    obtain ⟨xs, h1, h2⟩ := h
    exact ⟨_, h1, .dic upd_same (h2.mono fun b o e => by rw [upd_ne (ne_of_none e n)]; exact e)⟩
  | ins c es =>
    obtain ⟨C, dx, fs, h0, h1, h2⟩ := h
    exact ⟨_, h1, .ins h0 upd_same (h2.mono fun b o e => by rw [upd_ne (ne_of_none e n)]; exact e)⟩
  | _ => exact h.elim
/-- data, or an object as it stands now -/
def RepT (G : GG) (F H : Hp) (v : V) (x : D) : Prop := Rep G F v x ∨ ∃ a, v = .ref a ∧ OwnAt G F H a x

theorem tabs_same {T : List (Addr × Str)} {H H' : Hp} (t : LamX.Tabs T H) (e : Same H H') : LamX.Tabs T H' := t.ext e
theorem tabs_upd {G : GG} {T : List (Addr × Str)} {F H : Hp} {a : Addr} {x : D} {o : HO} (t : LamX.Tabs T H) (h : OwnAt G F H a x) : LamX.Tabs T (upd H a o) := fun p hp => by
  obtain ⟨u, e⟩ := h.there
  obtain ⟨k1, k2⟩ := h.kind e
  obtain ⟨ps, h1, h2, h3⟩ := t p hp
  refine ⟨ps, ?_, h2, fun pos cv hc => ?_⟩
  · rw [upd_ne fun z => k1 ps (by rw [z, e] at h1; exact Option.some.inj h1)]
    exact h1
  · obtain ⟨c, e1, e2⟩ := h3 pos cv hc
    refine ⟨c, e1, ?_⟩
    rw [upd_ne fun z => k2 _ (by rw [z, e] at e2; exact Option.some.inj e2)]
    exact e2
theorem same_upd {H : Hp} {p : Addr} {o : HO} (h : H p = none) : Same H (upd H p o) := fun b x e => by
  rw [upd_ne (ne_of_none e h)]
  exact e

/-! ### the state -/
/-- the entry: the heap, what is frozen, where the callers' objects of the parameters lie, and what waits in the midst of a row of values -/
structure Gh where
  H : Hp
  F : Hp
  P : Nat → Option Addr
  T : List (Addr × D)
structure Good (G : GG) (g : Gh) (F : Hp) (ρ : List S) (σ : L2.St) (H : Hp) : Prop where
  len : σ.length = ρ.length
  fh : Same F H
  f0 : Same g.F F
  keep : ∀ a o, g.H a = some o → (∀ i, g.P i ≠ some a) → (∀ ps, o ≠ .tbl ps) → H a = some o
  fresh : ∀ a, F a ≠ none → g.F a ≠ none ∨ Nw g.H a
  dat : ∀ (i : Nat) (x : D), ρ[i]? = some (S.d x) → ∃ v, σ[i]? = some (some v) ∧ Rep G F v x
  obj : ∀ (i : Nat) (x : D), ρ[i]? = some (S.o x) → ∃ a : Addr, σ[i]? = some (some (V.ref a)) ∧ F a = none ∧ OwnAt G F H a x ∧ Nw g.H a
  prm : ∀ (i : Nat) (x : D), ρ[i]? = some (S.p x) → ∃ a : Addr, σ[i]? = some (some (V.ref a)) ∧ F a = none ∧ OwnAt G F H a x ∧ g.P i = some a
  par : ∀ (i : Nat) (a : Addr), g.P i = some a → (∃ x : D, ρ[i]? = some (S.p x)) ∧ ∃ o, g.H a = some o
  apart : ∀ (i j : Nat) (s t : S) (a : Addr), i ≠ j → ρ[i]? = some s → ρ[j]? = some t → s.own ≠ none → t.own ≠ none → σ[i]? = some (some (V.ref a)) → σ[j]? ≠ some (some (V.ref a))
  tmp : ∀ q : Addr × D, q ∈ g.T → F q.1 = none ∧ OwnAt G F H q.1 q.2 ∧ Nw g.H q.1 ∧ ∀ (i : Nat) (s : S), ρ[i]? = some s → s.own ≠ none → σ[i]? ≠ some (some (V.ref q.1))
  nt : ∀ a ps, F a ≠ some (.tbl ps)
  tabs : LamX.Tabs G.T H

/-- what stands is kept, some new things come, some of them frozen -/
structure Step (F H F' H' : Hp) : Prop where
  ff : Same F F'
  hh : Same H H'
  fh : Same F' H'
  fr : ∀ a, F' a ≠ none → F a ≠ none ∨ H a = none
  nt : ∀ a ps, F' a = some (.tbl ps) → F a = some (.tbl ps)
theorem Step.refl {F H : Hp} (s : Same F H) : Step F H F H := ⟨.refl _, .refl _, s, fun _ h => .inl h, fun _ _ h => h⟩
theorem Step.trans {F H F1 H1 F2 H2 : Hp} (a : Step F H F1 H1) (b : Step F1 H1 F2 H2) : Step F H F2 H2 :=
  ⟨a.ff.trans b.ff, a.hh.trans b.hh, b.fh, fun c h => by
    rcases b.fr c h with h | h
    · exact a.fr c h
    · exact .inr (a.hh.free h), fun c ps h => a.nt c ps (b.nt c ps h)⟩
/-- a new object, frozen at once -/
theorem Step.frozen {F H : Hp} {p : Addr} {o : HO} (s : Same F H) (n : H p = none) (no : ∀ ps, o ≠ .tbl ps := by (intro _ z; cases z)) : Step F H (upd F p o) (upd H p o) := by
  have nF : F p = none := s.free n
  refine ⟨same_upd nF, same_upd n, fun b u e => ?_, fun a h => ?_, fun a ps h => ?_⟩
  · by_cases z : b = p
    · subst z
      rw [upd_same] at e ⊢
      exact e
    · rw [upd_ne z] at e ⊢
      exact s _ _ e
  · by_cases z : a = p
    · subst z
      exact .inr n
    · rw [upd_ne z] at h
      exact .inl h
  · by_cases z : a = p
    · subst z
      rw [upd_same] at h
      exact absurd (Option.some.inj h) (no ps)
    · rw [upd_ne z] at h
      exact h
/-- a new object, that may change -/
theorem Step.new {F H : Hp} {p : Addr} {o : HO} (s : Same F H) (n : H p = none) : Step F H F (upd H p o) :=
  ⟨.refl _, same_upd n, s.trans (same_upd n), fun _ h => .inl h, fun _ _ h => h⟩

section
variable {G : GG} {g : Gh} {F F' H H' : Hp} {ρ : List S} {σ : L2.St}
theorem Good.nwOf (I : Good G g F ρ σ H) {a : Addr} (h : Nw H a) : Nw g.H a := fun o q => Classical.byContradiction fun hn => by
  by_cases n : ∀ i, g.P i ≠ some a
  · exact hn (h o (I.keep a o q n fun ps z => hn ⟨ps, z⟩))
  · obtain ⟨i, hi⟩ := Classical.not_forall.mp n
    have hi : g.P i = some a := Classical.not_not.mp hi
    obtain ⟨⟨x, hx⟩, _⟩ := I.par i a hi
    obtain ⟨b, _, _, ow, hb⟩ := I.prm i x hx
    rw [hi] at hb; cases hb
    exact ow.nw h
theorem Good.step (I : Good G g F ρ σ H) (s : Step F H F' H') : Good G g F' ρ σ H' where
  len := I.len
  fh := s.fh
  f0 := I.f0.trans s.ff
  keep := fun a o h n t => s.hh _ _ (I.keep a o h n t)
  fresh := fun a h => by
    rcases s.fr a h with h | h
    · exact I.fresh a h
    · exact .inr (I.nwOf (.of h))
  nt := fun a ps h => I.nt a ps (s.nt a ps h)
  tabs := tabs_same I.tabs s.hh
  dat := fun i x h => by
    obtain ⟨v, h1, h2⟩ := I.dat i x h
    exact ⟨v, h1, h2.mono s.ff⟩
  obj := fun i x h => by
    obtain ⟨a, h1, h2, h3, h4⟩ := I.obj i x h
    obtain ⟨o, ho⟩ := h3.there
    refine ⟨a, h1, ?_, h3.mono s.ff ((s.hh _ _ ho).trans ho.symm), h4⟩
    cases q : F' a with
    | none => rfl
    | some u =>
      rcases s.fr a (by rw [q]; simp) with z | z
      · exact absurd h2 z
      · rw [ho] at z; cases z
  prm := fun i x h => by
    obtain ⟨a, h1, h2, h3, h4⟩ := I.prm i x h
    obtain ⟨o, ho⟩ := h3.there
    refine ⟨a, h1, ?_, h3.mono s.ff ((s.hh _ _ ho).trans ho.symm), h4⟩
    cases q : F' a with
    | none => rfl
    | some u =>
      rcases s.fr a (by rw [q]; simp) with z | z
      · exact absurd h2 z
      · rw [ho] at z; cases z
  par := I.par
  apart := I.apart
  tmp := fun q hq => by
    obtain ⟨h2, h3, h4, h5⟩ := I.tmp q hq
    obtain ⟨o, ho⟩ := h3.there
    refine ⟨?_, h3.mono s.ff ((s.hh _ _ ho).trans ho.symm), h4, h5⟩
    cases e : F' q.1 with
    | none => rfl
    | some u =>
      rcases s.fr q.1 (by rw [e]; simp) with z | z
      · exact absurd h2 z
      · rw [ho] at z; cases z
/-- the slot's object -/
theorem Good.own (I : Good G g F ρ σ H) {i : Nat} {s : S} {x : D} (h : ρ[i]? = some s) (e : s.own = some x) : ∃ a, σ[i]? = some (some (.ref a)) ∧ F a = none ∧ OwnAt G F H a x := by
  cases s with
  | o y =>
    cases e
    obtain ⟨a, h1, h2, h3, _⟩ := I.obj i _ h
    exact ⟨a, h1, h2, h3⟩
  | p y =>
    cases e
    obtain ⟨a, h1, h2, h3, _⟩ := I.prm i _ h
    exact ⟨a, h1, h2, h3⟩
  | un => cases e
  | d y => cases e
end

/-! ### values -/
def RepV (G : GG) (g : Gh) (F H : Hp) (ρ : List S) (σ : L2.St) (v : V) : RV → Prop
  | .d x => Rep G F v x
  | .r i => σ[i]? = some (some v)
  | .f x => ∃ a, v = .ref a ∧ F a = none ∧ Nw g.H a ∧ OwnAt G F H a x ∧ (∀ (i : Nat) (s : S), ρ[i]? = some s → s.own ≠ none → σ[i]? ≠ some (some (V.ref a))) ∧ ∀ q ∈ g.T, q.1 ≠ a
def RepX (G : GG) (F : Hp) (cls : Value) (d : Option Addr) (e : Exn) : Prop :=
  ∃ C, G.cls e.c = some C ∧ cls = .ref C ∧ ((d = none ∧ e.fs = []) ∨ ∃ dd fs, d = some dd ∧ F dd = some (.xd fs) ∧ RepF G F fs e.fs)
/-! ### readings made of mirrors -/
def R.bind {α β : Type} (m : R α) (k : α → List S → R β) : R β := match m with
  | .ok a ρ => k a ρ
  | .ex e ρ => .ex e ρ
  | .bad => .bad
/-- what is wanted behind a mirror's run -/
def Post (G : GG) (g : Gh) (W : WX) (F : Hp) (σ : L2.St) {α : Type} (r : R α) (K : Hp → Hp → List S → α → Prop) : Prop := match r with
  | .ok a ρ' => ∀ F' H', Same F F' → Good G g F' ρ' σ H' → K F' H' ρ' a
  | .ex e ρ' => ∀ F' H' cls d, Same F F' → Good G g F' ρ' σ H' → RepX G F' cls d e → W cls d σ H'
  | .bad => False
section
variable {G : GG} {g : Gh} {W : WX} {F F' H H' : Hp} {σ : L2.St} {α β : Type} {r : R α} {K K' : Hp → Hp → List S → α → Prop}
theorem Post.mono (h : Post G g W F σ r K) (s : Same F F') : Post G g W F' σ r K := by
  cases r with
  | ok a ρ => exact fun F2 H2 s2 => h F2 H2 (s.trans s2)
  | ex e ρ => exact fun F2 H2 c d s2 => h F2 H2 c d (s.trans s2)
  | bad => exact h
theorem Post.imp (h : Post G g W F σ r K) (i : ∀ F' H' ρ' a, Same F F' → Good G g F' ρ' σ H' → K F' H' ρ' a → K' F' H' ρ' a) : Post G g W F σ r K' := by
  cases r with
  | ok a ρ => exact fun F2 H2 s2 I2 => i _ _ _ _ s2 I2 (h F2 H2 s2 I2)
  | ex e ρ => exact h
  | bad => exact h
theorem Post.bind {k : α → List S → R β} {K : Hp → Hp → List S → β → Prop} (h : Post G g W F σ (r.bind k) K) : Post G g W F σ r fun F' _ ρ' a => Post G g W F' σ (k a ρ') K := by
  cases r with
  | ok a ρ => exact fun F2 H2 s2 _ => h.mono s2
  | ex e ρ => exact h
  | bad => exact h
end
def tM (G : GG) (g : Gh) (W : WX) (f : Ex) : TE := fun σ H Q => ∃ F ρ, Good G g F ρ σ H ∧ Post G g W F σ (f ρ) fun F' H' ρ' rv => ∀ v, RepV G g F' H' ρ' σ v rv → Q v H'
def tMT (G : GG) (g : Gh) (W : WX) (f : List S → R Bool) : TT := fun σ H Q => ∃ F ρ, Good G g F ρ σ H ∧ Post G g W F σ (f ρ) fun _ H' _ b => Q b H'
/-- a value that waits: data, or a slot's object -/
inductive HV where
  | d (x : D) | r (i : Nat)
def RepH (G : GG) (F : Hp) (σ : L2.St) (v : V) : HV → Prop
  | .d x => Rep G F v x
  | .r i => σ[i]? = some (some v)
theorem RepH.mono {G : GG} {F F' : Hp} {σ : L2.St} {v : V} {h : HV} (r : RepH G F σ v h) (s : Same F F') : RepH G F' σ v h := by
  cases h with
  | d x => exact Rep.mono s r
  | r i => exact r
inductive RepHs (G : GG) (F : Hp) (σ : L2.St) : List V → List HV → Prop
  | nil : RepHs G F σ [] []
  | cons {v : V} {h : HV} {vs : List V} {hs : List HV} : RepH G F σ v h → RepHs G F σ vs hs → RepHs G F σ (v :: vs) (h :: hs)
theorem RepHs.mono {G : GG} {F F' : Hp} {σ : L2.St} (s : Same F F') : ∀ {vs : List V} {hs : List HV}, RepHs G F σ vs hs → RepHs G F' σ vs hs
  | _, _, .nil => .nil
  | _, _, .cons a b => .cons (a.mono s) (b.mono s)
def tMH (G : GG) (g : Gh) (W : WX) (f : List S → R HV) : TE := fun σ H Q => ∃ F ρ, Good G g F ρ σ H ∧ Post G g W F σ (f ρ) fun F' H' _ h => ∀ v, RepH G F' σ v h → Q v H'
def tMA (G : GG) (g : Gh) (W : WX) (f : List S → R (List HV)) : TA := fun σ H Q => ∃ F ρ, Good G g F ρ σ H ∧ Post G g W F σ (f ρ) fun F' H' _ hs => ∀ vs, RepHs G F' σ vs hs → Q vs H'
/-- what is wanted behind a statement's mirror -/
def PostS (G : GG) (g : Gh) (W : WX) (F : Hp) (o : Out) (Dd : Ends) : Prop := match o with
  | .nx ρ' => ∀ F' H' σ', Same F F' → Good G g F' ρ' σ' H' → Dd.nx σ' H'
  | .bk ρ' => ∀ F' H' σ', Same F F' → Good G g F' ρ' σ' H' → Dd.bk σ' H'
  | .ct ρ' => ∀ F' H' σ', Same F F' → Good G g F' ρ' σ' H' → Dd.ct σ' H'
  | .rt rv ρ' => ∀ F' H' σ' v, Same F F' → Good G g F' ρ' σ' H' → RepV G g F' H' ρ' σ' v rv → Dd.rt v H'
  | .ex e ρ' => ∀ F' H' σ' cls d, Same F F' → Good G g F' ρ' σ' H' → RepX G F' cls d e → W cls d σ' H'
  | .bad => False
theorem PostS.mono {G : GG} {g : Gh} {W : WX} {F F' : Hp} {o : Out} {Dd : Ends} (h : PostS G g W F o Dd) (s : Same F F') : PostS G g W F' o Dd := by
  cases o with
  | nx ρ => exact fun F2 H2 σ2 s2 => h F2 H2 σ2 (s.trans s2)
  | bk ρ => exact fun F2 H2 σ2 s2 => h F2 H2 σ2 (s.trans s2)
  | ct ρ => exact fun F2 H2 σ2 s2 => h F2 H2 σ2 (s.trans s2)
  | rt r ρ => exact fun F2 H2 σ2 v s2 => h F2 H2 σ2 v (s.trans s2)
  | ex e ρ => exact fun F2 H2 σ2 c d s2 => h F2 H2 σ2 c d (s.trans s2)
  | bad => exact h
def tMS (G : GG) (g : Gh) (W : WX) (m : Sm) : TS := fun Dd σ H => ∃ F ρ, Good G g F ρ σ H ∧ PostS G g W F (m ρ) Dd
abbrev ME (X : Cx) (G : GG) (g : Gh) (W : WX) (e : Expr) (f : Ex) : Prop := PE X e (tM G g W f)
abbrev MH (X : Cx) (G : GG) (g : Gh) (W : WX) (e : Expr) (f : List S → R HV) : Prop := PE X e (tMH G g W f)
abbrev MT (X : Cx) (G : GG) (g : Gh) (W : WX) (e : Expr) (f : List S → R Bool) : Prop := PT X e (tMT G g W f)
abbrev MW (X : Cx) (G : GG) (g : Gh) (W : WX) (e : Expr) (f : List S → R Bool) : Prop := PW X e (tMT G g W f)
abbrev MA (X : Cx) (G : GG) (g : Gh) (W : WX) (es : List Expr) (f : List S → R (List HV)) : Prop := PA X es (tMA G g W f)
abbrev MS (X : Cx) (G : GG) (g : Gh) (W : WX) (st : Stmt) (m : Sm) : Prop := PS X st (tMS G g W m)
abbrev MSs (X : Cx) (G : GG) (g : Gh) (W : WX) (st : List Stmt) (m : Sm) : Prop := PSs X st (tMS G g W m)

theorem pe_imp {X : Cx} {e : Expr} {t t' : TE} (h : PE X e t) (i : ∀ σ H Q, t' σ H Q → t σ H Q) : PE X e t' := ⟨fun pins s σ H Q I w => h.run pins s σ H Q I (i σ H Q w)⟩
theorem pt_imp {X : Cx} {e : Expr} {t t' : TT} (h : PT X e t) (i : ∀ σ H Q, t' σ H Q → t σ H Q) : PT X e t' := ⟨fun pins s σ H Q I w => h.run pins s σ H Q I (i σ H Q w)⟩
theorem pw_imp {X : Cx} {e : Expr} {t t' : TT} (h : PW X e t) (i : ∀ σ H Q, t' σ H Q → t σ H Q) : PW X e t' := ⟨fun wh pins s σ H Q I w => h.run wh pins s σ H Q I (i σ H Q w)⟩
theorem pa_imp {X : Cx} {es : List Expr} {t t' : TA} (h : PA X es t) (i : ∀ σ H Q, t' σ H Q → t σ H Q) : PA X es t' := ⟨fun pos pins s σ H Q I w => h.run pos pins s σ H Q I (i σ H Q w)⟩
theorem ps_imp {X : Cx} {st : Stmt} {t t' : TS} (h : PS X st t) (i : ∀ D σ H, t' D σ H → t D σ H) : PS X st t' := ⟨fun pins s σ H D I w => h.run pins s σ H D I (i D σ H w)⟩
theorem pss_imp {X : Cx} {st : List Stmt} {t t' : TS} (h : PSs X st t) (i : ∀ D σ H, t' D σ H → t D σ H) : PSs X st t' := ⟨fun pins s σ H D I w => h.run pins s σ H D I (i D σ H w)⟩

/-! ### freezing -/
section
variable {G : GG} {g : Gh} {F F' H H' : Hp} {ρ : List S} {σ : L2.St}
/-- a new object that nobody holds is data from now on -/
theorem Good.freezeF (I : Good G g F ρ σ H) {a : Addr} {x : D} (n : F a = none) (h0 : Nw g.H a) (ow : OwnAt G F H a x) (ap : ∀ (i : Nat) (s : S), ρ[i]? = some s → s.own ≠ none → σ[i]? ≠ some (some (V.ref a))) (nT : ∀ q ∈ g.T, q.1 ≠ a) :
    ∃ F', Same F F' ∧ Good G g F' ρ σ H ∧ Rep G F' (.ref a) x := by
  obtain ⟨o, ho, r⟩ := ow.rep n
  have sF : Same F (upd F a o) := same_upd n
  refine ⟨upd F a o, sF, ?_, r⟩
  have ne : ∀ (i : Nat) (s : S) (b : Addr), ρ[i]? = some s → s.own ≠ none → σ[i]? = some (some (V.ref b)) → b ≠ a := fun i s b h1 h2 h3 z => by
    subst z
    exact ap i s h1 h2 h3
  exact { len := I.len
          fh := fun b u e => by
            by_cases z : b = a
            · subst z
              rw [upd_same] at e; cases e
              exact ho
            · rw [upd_ne z] at e
              exact I.fh _ _ e
          f0 := I.f0.trans sF
          keep := I.keep
          fresh := fun b h => by
            by_cases z : b = a
            · subst z; exact .inr h0
            · rw [upd_ne z] at h
              exact I.fresh b h
          dat := fun i y h => by
            obtain ⟨v, h1, h2⟩ := I.dat i y h
            exact ⟨v, h1, h2.mono sF⟩
          obj := fun i y h => by
            obtain ⟨b, h1, h2, h3, h4⟩ := I.obj i y h
            refine ⟨b, h1, ?_, h3.mono sF rfl, h4⟩
            rw [upd_ne (ne i _ b h (by simp [S.own]) h1)]
            exact h2
          prm := fun i y h => by
            obtain ⟨b, h1, h2, h3, h4⟩ := I.prm i y h
            refine ⟨b, h1, ?_, h3.mono sF rfl, h4⟩
            rw [upd_ne (ne i _ b h (by simp [S.own]) h1)]
            exact h2
          par := I.par
          nt := fun b ps h => by
            by_cases z : b = a
            · subst z
              rw [upd_same] at h
              exact (ow.kind ho).1 ps (Option.some.inj h)
            · rw [upd_ne z] at h
              exact I.nt b ps h
          tabs := I.tabs
          apart := I.apart
          tmp := fun q hq => by
            obtain ⟨h2, h3, h4, h5⟩ := I.tmp q hq
            refine ⟨?_, h3.mono sF rfl, h4, h5⟩
            rw [upd_ne (nT q hq)]
            exact h2 }
/-- a slot's own object is data from now on -/
theorem Good.freezeR (I : Good G g F ρ σ H) {i : Nat} {x : D} (h : ρ[i]? = some (.o x)) :
    ∃ F' a, Same F F' ∧ Good G g F' (ρ.set i (.d x)) σ H ∧ σ[i]? = some (some (.ref a)) ∧ Rep G F' (.ref a) x := by
  obtain ⟨a, e, n, ow, h0⟩ := I.obj i x h
  obtain ⟨o, ho, r⟩ := ow.rep n
  have sF : Same F (upd F a o) := same_upd n
  have hi : i < ρ.length := (List.getElem?_eq_some_iff.mp h).1
  have other : ∀ (j : Nat) (s : S), (ρ.set i (.d x))[j]? = some s → s.own ≠ none → j ≠ i ∧ ρ[j]? = some s := fun j s hj ho => by
    by_cases z : j = i
    · subst z
      rw [List.getElem?_set_self hi] at hj
      cases hj
      exact absurd rfl ho
    · rw [List.getElem?_set_ne (Ne.symm z)] at hj
      exact ⟨z, hj⟩
  have ne : ∀ (j : Nat) (s : S) (b : Addr), (ρ.set i (.d x))[j]? = some s → s.own ≠ none → σ[j]? = some (some (V.ref b)) → b ≠ a := fun j s b h1 h2 h3 z => by
    subst z
    obtain ⟨h4, h5⟩ := other j s h1 h2
    exact I.apart i j _ _ b (Ne.symm h4) h h5 (by simp [S.own]) h2 e h3
  refine ⟨upd F a o, a, sF, ?_, e, r⟩
  exact { len := by rw [List.length_set]; exact I.len
          fh := fun b u e => by
            by_cases z : b = a
            · subst z
              rw [upd_same] at e; cases e
              exact ho
            · rw [upd_ne z] at e
              exact I.fh _ _ e
          f0 := I.f0.trans sF
          keep := I.keep
          fresh := fun b hb => by
            by_cases z : b = a
            · subst z; exact .inr h0
            · rw [upd_ne z] at hb
              exact I.fresh b hb
          nt := fun b ps h => by
            by_cases z : b = a
            · subst z
              rw [upd_same] at h
              exact (ow.kind ho).1 ps (Option.some.inj h)
            · rw [upd_ne z] at h
              exact I.nt b ps h
          tabs := I.tabs
          dat := fun j y hj => by
            by_cases z : j = i
            · subst z
              rw [List.getElem?_set_self hi] at hj
              cases hj
              exact ⟨_, e, r⟩
            · rw [List.getElem?_set_ne (Ne.symm z)] at hj
              obtain ⟨v, h1, h2⟩ := I.dat j y hj
              exact ⟨v, h1, h2.mono sF⟩
          obj := fun j y hj => by
            obtain ⟨z, hj'⟩ := other j _ hj (by simp [S.own])
            obtain ⟨b, h1, h2, h3, h4⟩ := I.obj j y hj'
            refine ⟨b, h1, ?_, h3.mono sF rfl, h4⟩
            rw [upd_ne (ne j _ b hj (by simp [S.own]) h1)]
            exact h2
          prm := fun j y hj => by
            obtain ⟨z, hj'⟩ := other j _ hj (by simp [S.own])
            obtain ⟨b, h1, h2, h3, h4⟩ := I.prm j y hj'
            refine ⟨b, h1, ?_, h3.mono sF rfl, h4⟩
            rw [upd_ne (ne j _ b hj (by simp [S.own]) h1)]
            exact h2
          par := fun j b hj => by
            obtain ⟨⟨y, hy⟩, ho⟩ := I.par j b hj
            refine ⟨⟨y, ?_⟩, ho⟩
            rw [List.getElem?_set_ne]
            · exact hy
            · intro z
              subst z
              rw [h] at hy; cases hy
          apart := fun j k s t b hjk h1 h2 h3 h4 => by
            obtain ⟨_, h1'⟩ := other j s h1 h3
            obtain ⟨_, h2'⟩ := other k t h2 h4
            exact I.apart j k s t b hjk h1' h2' h3 h4
          tmp := fun q hq => by
            obtain ⟨h2, h3, h4, h5⟩ := I.tmp q hq
            refine ⟨?_, h3.mono sF rfl, h4, fun j s hj hs => h5 j s (other j s hj hs).2 hs⟩
            rw [upd_ne fun z => h5 i _ h (by simp [S.own]) (by rw [e, z])]
            exact h2 }
end
/-- a new object is frozen; a slot stays a slot -/
def mHold (f : Ex) : List S → R HV := fun ρ => (f ρ).bind fun rv ρ' => .ok (match rv with
  | .d x => .d x
  | .f x => .d x
  | .r i => .r i) ρ'
/-- the value as data: a slot's own object is frozen -/
def forceRV (rv : RV) (ρ : List S) : R D := match rv with
  | .d x => .ok x ρ
  | .f x => .ok x ρ
  | .r i => match ρ[i]? with
    | some (.d x) => .ok x ρ
    | some (.o x) => .ok x (ρ.set i (.d x))
    | _ => .bad
def mForce (f : Ex) : List S → R D := fun ρ => (f ρ).bind forceRV
def peekH (ρ : List S) : HV → Option D
  | .d x => some x
  | .r i => match ρ[i]? with
    | some (.d x) => some x
    | some (.o x) => some x
    | some (.p x) => some x
    | _ => none
def peekHs (ρ : List S) : List HV → Option (List D)
  | [] => some []
  | h :: hs => (peekH ρ h).bind fun x => (peekHs ρ hs).bind fun xs => some (x :: xs)
theorem peekH_rep {G : GG} {g : Gh} {F H : Hp} {ρ : List S} {σ : L2.St} (I : Good G g F ρ σ H) {v : V} {h : HV} {x : D} (r : RepH G F σ v h) (e : peekH ρ h = some x) : RepT G F H v x := by
  cases h with
  | d y => cases e; exact .inl r
  | r i =>
    have r : σ[i]? = some (some v) := r
    unfold peekH at e
    dsimp only at e
    cases q : ρ[i]? with
    | none => rw [q] at e; cases e
    | some s =>
      rw [q] at e
      cases s with
      | un => cases e
      | d y =>
        cases e
        obtain ⟨u, h1, h2⟩ := I.dat i _ q
        rw [r] at h1; cases h1
        exact .inl h2
      | o y =>
        cases e
        obtain ⟨a, h1, _, h2⟩ := I.own q rfl
        rw [r] at h1; cases h1
        exact .inr ⟨a, rfl, h2⟩
      | p y =>
        cases e
        obtain ⟨a, h1, _, h2⟩ := I.own q rfl
        rw [r] at h1; cases h1
        exact .inr ⟨a, rfl, h2⟩
inductive RepTs (G : GG) (F H : Hp) : List V → List D → Prop
  | nil : RepTs G F H [] []
  | cons {v : V} {x : D} {vs : List V} {xs : List D} : RepT G F H v x → RepTs G F H vs xs → RepTs G F H (v :: vs) (x :: xs)
theorem peekHs_rep {G : GG} {g : Gh} {F H : Hp} {ρ : List S} {σ : L2.St} (I : Good G g F ρ σ H) : ∀ {vs : List V} {hs : List HV} {xs : List D}, RepHs G F σ vs hs → peekHs ρ hs = some xs → RepTs G F H vs xs
  | _, _, _, .nil, e => by
    cases e
    exact .nil
  | _, _, _, .cons (h := h) (hs := hs) a b, e => by
    unfold peekHs at e
    cases q : peekH ρ h with
    | none => rw [q] at e; cases e
    | some x =>
      rw [q] at e
      cases q2 : peekHs ρ hs with
      | none => rw [q2] at e; cases e
      | some xs =>
        rw [q2] at e
        cases e
        exact .cons (peekH_rep I a q) (peekHs_rep I b q2)
theorem forceRV_ok {G : GG} {g : Gh} {F H : Hp} {ρ ρ' : List S} {σ : L2.St} {v : V} {rv : RV} {x : D} (I : Good G g F ρ σ H) (h : RepV G g F H ρ σ v rv) (e : forceRV rv ρ = .ok x ρ') :
    ∃ F', Same F F' ∧ Good G g F' ρ' σ H ∧ Rep G F' v x := by
  cases rv with
  | d y =>
    have e : R.ok y ρ = R.ok x ρ' := e
    cases e
    exact ⟨F, .refl _, I, h⟩
  | f y =>
    have e : R.ok y ρ = R.ok x ρ' := e
    cases e
    obtain ⟨a, rfl, n, h0, ow, ap, nT⟩ := h
    exact I.freezeF n h0 ow ap nT
  | r i =>
    have h : σ[i]? = some (some v) := h
    unfold forceRV at e
    dsimp only at e
    cases q : ρ[i]? with
    | none => rw [q] at e; cases e
    | some s =>
      rw [q] at e
      cases s with
      | un => cases e
      | p y => cases e
      | d y =>
        cases e
        obtain ⟨u, h1, h2⟩ := I.dat i _ q
        rw [h] at h1; cases h1
        exact ⟨F, .refl _, I, h2⟩
      | o y =>
        cases e
        obtain ⟨F', a, s1, I', e1, r⟩ := I.freezeR q
        rw [h] at e1; cases e1
        exact ⟨F', s1, I', r⟩
theorem forceRV_ex {rv : RV} {ρ ρ' : List S} {e : Exn} (h : forceRV rv ρ = .ex e ρ') : False := by
  cases rv with
  | d x => cases h
  | f x => cases h
  | r i =>
    unfold forceRV at h
    dsimp only at h
    split at h <;> cases h
theorem me_hold {X : Cx} {G : GG} {g : Gh} {W : WX} {e : Expr} {f : Ex} (h : ME X G g W e f) : MH X G g W e (mHold f) := pe_imp h fun σ H Q ⟨F, ρ, I, p⟩ => by
  refine ⟨F, ρ, I, p.bind.imp fun F1 H1 ρ1 rv s1 I1 k v r => ?_⟩
  cases rv with
  | d x => exact k F1 H1 (.refl _) I1 v r
  | r i => exact k F1 H1 (.refl _) I1 v r
  | f x =>
    obtain ⟨a, rfl, n, h0, ow, ap, nT⟩ := r
    obtain ⟨F2, s2, I2, r2⟩ := I1.freezeF n h0 ow ap nT
    exact k F2 H1 s2 I2 _ r2
def tMD (G : GG) (g : Gh) (W : WX) (f : List S → R D) : TE := fun σ H Q => ∃ F ρ, Good G g F ρ σ H ∧ Post G g W F σ (f ρ) fun F' H' _ x => ∀ v, Rep G F' v x → Q v H'
theorem me_force {X : Cx} {G : GG} {g : Gh} {W : WX} {e : Expr} {f : Ex} (h : ME X G g W e f) : PE X e (tMD G g W (mForce f)) := pe_imp h fun σ H Q ⟨F, ρ, I, p⟩ => by
  refine ⟨F, ρ, I, p.bind.imp fun F1 H1 ρ1 rv s1 I1 k v r => ?_⟩
  cases q : forceRV rv ρ1 with
  | bad => rw [q] at k; exact k.elim
  | ex e ρ2 => exact (forceRV_ex q).elim
  | ok x ρ2 =>
    rw [q] at k
    obtain ⟨F2, s2, I2, r2⟩ := forceRV_ok I1 r q
    exact k F2 H1 s2 I2 v r2
end MM
set_option Elab.async false
set_option maxRecDepth 100000
set_option maxHeartbeats 2000000
namespace MM
open PySem PySem.Spec PyProof.Rows L2
section
variable {X : Cx} {G : GG} {g : Gh} {W : WX} {pos p apos : Pos}

/-! ### names and constants -/
def mVar (i : Nat) : Ex := fun ρ => match ρ[i]? with
  | some (.d x) => .ok (.d x) ρ
  | some (.o _) => .ok (.r i) ρ
  | some (.p _) => .ok (.r i) ρ
  | _ => .bad
def mC (x : D) : Ex := fun ρ => .ok (.d x) ρ
theorem me_var {i : Nat} {x : Str} (h : PE X (.Name x pos) (tVar i)) : ME X G g W (.Name x pos) (mVar i) := pe_imp h fun σ H Q ⟨F, ρ, I, h⟩ => by
  unfold mVar at h
  cases q : ρ[i]? with
  | none => rw [q] at h; exact h.elim
  | some s =>
    rw [q] at h
    cases s with
    | un => exact h.elim
    | d y =>
      obtain ⟨v, e, r⟩ := I.dat i y q
      exact ⟨v, e, h F H (.refl _) I v r⟩
    | o y =>
      obtain ⟨a, e, _⟩ := I.own q rfl
      exact ⟨_, e, h F H (.refl _) I _ e⟩
    | p y =>
      obtain ⟨a, e, _⟩ := I.own q rfl
      exact ⟨_, e, h F H (.refl _) I _ e⟩
theorem me_c {e : Expr} {v : V} {x : D} (h : PE X e (tC v)) (r : ∀ F, Rep G F v x) : ME X G g W e (mC x) := pe_imp h fun σ H Q ⟨F, ρ, I, h⟩ => h F H (.refl _) I v (r F)
theorem me_int {i : Int} {j} : ME X G g W (.Constant (.int i) j pos) (mC (.int i)) := me_c pe_int fun _ => .int _
theorem me_bl {b : Bool} {j} : ME X G g W (.Constant (.bool b) j pos) (mC (.bl b)) := me_c pe_bl fun _ => .bl _
theorem me_non {j} : ME X G g W (.Constant .none j pos) (mC .non) := me_c pe_non fun _ => .non
theorem me_str {x : Str} {j} : ME X G g W (.Constant (.str x) j pos) (mC (.str x.cps.toList)) := me_c pe_str fun _ => .str rfl

/-! ### operators by data -/
/-- what an operation leaves: data, or a new object -/
def RepO (G : GG) (H F' H' : Hp) (v : V) : RV → Prop
  | .d x => Rep G F' v x
  | .f x => ∃ a, v = .ref a ∧ Nw H a ∧ F' a = none ∧ OwnAt G F' H' a x
  | .r _ => False
theorem RepO.toV {F F' H H' : Hp} {ρ : List S} {σ : L2.St} {v : V} {rv : RV} (I : Good G g F ρ σ H) (s : Step F H F' H') (r : RepO G H F' H' v rv) : RepV G g F' H' ρ σ v rv := by
  cases rv with
  | d x => exact r
  | r i => exact r.elim
  | f x =>
    obtain ⟨a, rfl, n, n', ow⟩ := r
    refine ⟨a, rfl, n', I.nwOf n, ow, fun i s hi hs e => ?_, fun q hq e => ?_⟩
    · cases q : s.own with
      | none => exact hs q
      | some x =>
        obtain ⟨b, e2, _, ow2⟩ := I.own hi q
        rw [e] at e2; cases e2
        exact ow2.nw n
    · obtain ⟨_, h3, _⟩ := I.tmp q hq
      rw [e] at h3
      exact h3.nw n
def ret (o : Option RV) (ρ : List S) : R RV := match o with
  | some rv => .ok rv ρ
  | none => .bad
def rD (G : GG) (op : D → D → Option RV) : R2 := fun v u H Q => ∃ F x y rv, Same F H ∧ RepT G F H v x ∧ RepT G F H u y ∧ op x y = some rv ∧ ∀ F' H' w, Step F H F' H' → RepO G H F' H' w rv → Q w H'
def mBin (op : D → D → Option RV) (a b : Ex) : Ex := fun ρ => (mHold a ρ).bind fun ha ρ1 => (mHold b ρ1).bind fun hb ρ2 => match peekH ρ2 ha, peekH ρ2 hb with
  | some x, some y => ret (op x y) ρ2
  | _, _ => .bad
theorem tM_bin {op : D → D → Option RV} {a b : Ex} {σ : L2.St} {H : Hp} {Q : VK} (h : tM G g W (mBin op a b) σ H Q) : tOp (rD G op) (tMH G g W (mHold a)) (tMH G g W (mHold b)) σ H Q := by
  obtain ⟨F, ρ, I, h⟩ := h
  refine ⟨F, ρ, I, h.bind.imp fun F1 H1 ρ1 ra s1 I1 k v r => ⟨F1, ρ1, I1, k.bind.imp fun F2 H2 ρ2 rb s2 I2 k2 u ru => ?_⟩⟩
  cases q1 : peekH ρ2 ra with
  | none => rw [q1] at k2; exact k2.elim
  | some x =>
    rw [q1] at k2
    cases q2 : peekH ρ2 rb with
    | none => rw [q2] at k2; exact k2.elim
    | some y =>
      rw [q2] at k2
      dsimp only at k2
      unfold ret at k2
      cases q3 : op x y with
      | none => rw [q3] at k2; exact k2.elim
      | some rv =>
        rw [q3] at k2
        refine ⟨F2, x, y, rv, I2.fh, peekH_rep I2 (r.mono s2) q1, peekH_rep I2 ru q2, q3, fun F3 H3 w st ro => ?_⟩
        exact k2 F3 H3 st.ff (I2.step st) w (ro.toV I2 st)
theorem me_bin {op : Operator} {od : D → D → Option RV} {a b : Expr} {f h : Ex} (ho : OpR X (binaryOp op) (rD G od)) (ha : ME X G g W a f) (hb : ME X G g W b h) : ME X G g W (.BinOp a op b pos) (mBin od f h) :=
  pe_imp (pe_op ho (me_hold ha) (me_hold hb)) fun _ _ _ => tM_bin
theorem me_cmp {op : CmpOp} {od : D → D → Option RV} {a b : Expr} {f h : Ex} (ho : OpR X (compareOp op) (rD G od)) (ha : ME X G g W a f) (hb : ME X G g W b h) (hm : behindInMarks op b = false) : ME X G g W (.Compare a [op] [b] pos) (mBin od f h) :=
  pe_imp (pe_cmpR ho (me_hold ha) (me_hold hb) hm) fun _ _ _ => tM_bin
/-- a comparison's answer -/
def mTestB (f : Ex) : List S → R Bool := fun ρ => (f ρ).bind fun rv ρ' => match rv with
  | .d (.bl b) => .ok b ρ'
  | _ => .bad
theorem tM_testB {f : Ex} {σ : L2.St} {H : Hp} {Q : Bool → Hp → Prop} (h : tMT G g W (mTestB f) σ H Q) : tTest (tM G g W f) σ H Q := by
  obtain ⟨F, ρ, I, h⟩ := h
  refine ⟨F, ρ, I, h.bind.imp fun F1 H1 ρ1 rv s1 I1 k v r => ?_⟩
  cases rv with
  | r i => exact k.elim
  | f x => exact k.elim
  | d x =>
    cases x with
    | bl b =>
      cases r
      exact ⟨b, rfl, k F1 H1 (.refl _) I1⟩
    | _ => exact k.elim
theorem mt_cmp {op : CmpOp} {od : D → D → Option RV} {a b : Expr} {f h : Ex} (ho : OpR X (compareOp op) (rD G od)) (ha : ME X G g W a f) (hb : ME X G g W b h) (hm : behindInMarks op b = false) : MT X G g W (.Compare a [op] [b] pos) (mTestB (mBin od f h)) :=
  pt_imp (pt_cmpR ho (me_hold ha) (me_hold hb) hm) fun σ H Q q => by
    obtain ⟨F, ρ, I, k⟩ := tM_testB q
    exact tM_bin (Q := fun x H' => ∃ k, x = .bl k ∧ Q k H') ⟨F, ρ, I, k⟩
/-! a op b op' c -/
def mChain (od od' : D → D → Option RV) (a b c : Ex) : Ex := fun ρ => (mHold a ρ).bind fun ha ρ1 => (mHold b ρ1).bind fun hb ρ2 => match peekH ρ2 ha, peekH ρ2 hb with
  | some x, some y => (match od x y with
    | some (.d (.bl true)) => (mHold c ρ2).bind fun hc ρ3 => (match peekH ρ3 hb, peekH ρ3 hc with
      | some y', some z => ret (od' y' z) ρ3
      | _, _ => .bad)
    | some (.d (.bl false)) => .ok (.d (.bl false)) ρ2
    | _ => .bad)
  | _, _ => .bad
theorem tM_chain {od od' : D → D → Option RV} {a b c : Ex} {σ : L2.St} {H : Hp} {Q : VK} (h : tM G g W (mChain od od' a b c) σ H Q) : tChain (rD G od) (rD G od') (tMH G g W (mHold a)) (tMH G g W (mHold b)) (tMH G g W (mHold c)) σ H Q := by
  obtain ⟨F, ρ, I, h⟩ := h
  refine ⟨F, ρ, I, h.bind.imp fun F1 H1 ρ1 ra s1 I1 k v r => ⟨F1, ρ1, I1, k.bind.imp fun F2 H2 ρ2 rb s2 I2 k2 u ru => ?_⟩⟩
  cases q1 : peekH ρ2 ra with
  | none => rw [q1] at k2; exact k2.elim
  | some x =>
    rw [q1] at k2
    cases q2 : peekH ρ2 rb with
    | none => rw [q2] at k2; exact k2.elim
    | some y =>
      rw [q2] at k2
      dsimp only at k2
      cases q3 : od x y with
      | none => rw [q3] at k2; exact k2.elim
      | some rv =>
        rw [q3] at k2
        cases rv with
        | r i => exact k2.elim
        | f z => exact k2.elim
        | d z =>
          cases z with
          | bl t =>
            refine ⟨F2, x, y, _, I2.fh, peekH_rep I2 (r.mono s2) q1, peekH_rep I2 ru q2, q3, fun F3 H3 w st ro => ?_⟩
            have I3 := I2.step st
            cases t with
            | false =>
              cases ro
              refine ⟨false, rfl, ?_⟩
              rw [if_neg Bool.false_ne_true]
              exact k2 F3 H3 st.ff I3 _ (.bl false)
            | true =>
              cases ro
              refine ⟨true, rfl, ?_⟩
              rw [if_pos rfl]
              refine ⟨F3, ρ2, I3, (k2.mono st.ff).bind.imp fun F4 H4 ρ4 rc s4 I4 k4 w' rw' => ?_⟩
              cases p1 : peekH ρ4 rb with
              | none => rw [p1] at k4; exact k4.elim
              | some y' =>
                rw [p1] at k4
                cases p2 : peekH ρ4 rc with
                | none => rw [p2] at k4; exact k4.elim
                | some z =>
                  rw [p2] at k4
                  dsimp only at k4
                  unfold ret at k4
                  cases p3 : od' y' z with
                  | none => rw [p3] at k4; exact k4.elim
                  | some rv =>
                    rw [p3] at k4
                    refine ⟨F4, y', z, rv, I4.fh, peekH_rep I4 ((ru.mono st.ff).mono s4) p1, peekH_rep I4 rw' p2, p3, fun F5 H5 w5 st5 ro5 => ?_⟩
                    exact k4 F5 H5 st5.ff (I4.step st5) _ (ro5.toV I4 st5)
          | _ => exact k2.elim
theorem me_chain {op op' : CmpOp} {od od' : D → D → Option RV} {a b c : Expr} {f h k : Ex} (ho : OpR X (compareOp op) (rD G od)) (ho' : OpR X (compareOp op') (rD G od')) (ha : ME X G g W a f) (hb : ME X G g W b h) (hc : ME X G g W c k)
    (hm : lastMarks [op, op'] [b, c] = false := by with_unfolding_all rfl) : ME X G g W (.Compare a [op, op'] [b, c] pos) (mChain od od' f h k) :=
  pe_imp (pe_chain ho ho' (me_hold ha) (me_hold hb) (me_hold hc) hm) fun _ _ _ => tM_chain
theorem mt_chain {op op' : CmpOp} {od od' : D → D → Option RV} {a b c : Expr} {f h k : Ex} (ho : OpR X (compareOp op) (rD G od)) (ho' : OpR X (compareOp op') (rD G od')) (ha : ME X G g W a f) (hb : ME X G g W b h) (hc : ME X G g W c k)
    (hm : lastMarks [op, op'] [b, c] = false := by with_unfolding_all rfl) : MT X G g W (.Compare a [op, op'] [b, c] pos) (mTestB (mChain od od' f h k)) :=
  pt_imp (pt_chain ho ho' (me_hold ha) (me_hold hb) (me_hold hc) hm) fun σ H Q q => by
    obtain ⟨F, ρ, I, k⟩ := tM_testB q
    exact tM_chain (Q := fun x H' => ∃ k, x = .bl k ∧ Q k H') ⟨F, ρ, I, k⟩
/-! unary -/
def rD1 (G : GG) (op : D → Option RV) : V → Hp → VK → Prop := fun v H Q => ∃ F x rv, Same F H ∧ RepT G F H v x ∧ op x = some rv ∧ ∀ F' H' w, Step F H F' H' → RepO G H F' H' w rv → Q w H'
def mUn (op : D → Option RV) (a : Ex) : Ex := fun ρ => (mHold a ρ).bind fun ha ρ1 => match peekH ρ1 ha with
  | some x => ret (op x) ρ1
  | _ => .bad
theorem tM_un {op : D → Option RV} {a : Ex} {σ : L2.St} {H : Hp} {Q : VK} (h : tM G g W (mUn op a) σ H Q) : tMH G g W (mHold a) σ H fun v H1 => rD1 G op v H1 Q := by
  obtain ⟨F, ρ, I, h⟩ := h
  refine ⟨F, ρ, I, h.bind.imp fun F1 H1 ρ1 ra s1 I1 k v r => ?_⟩
  cases q1 : peekH ρ1 ra with
  | none => rw [q1] at k; exact k.elim
  | some x =>
    rw [q1] at k
    dsimp only at k
    unfold ret at k
    cases q3 : op x with
    | none => rw [q3] at k; exact k.elim
    | some rv =>
      rw [q3] at k
      exact ⟨F1, x, rv, I1.fh, peekH_rep I1 r q1, q3, fun F3 H3 w st ro => k F3 H3 st.ff (I1.step st) w (ro.toV I1 st)⟩
theorem me_un {op : UnaryOp} {od : D → Option RV} {a : Expr} {f : Ex} (ho : UnR X (unaryOp op) (rD1 G od)) (ha : ME X G g W a f) : ME X G g W (.UnaryOp op a pos) (mUn od f) :=
  pe_imp (pe_un ho (me_hold ha)) fun _ _ _ => tM_un

/-! ### tests -/
/-- a value's truth -/
def truthD : D → Option Bool
  | .non => some false
  | .bl b => some b
  | .int i => some (i != 0)
  | .str l => if l.length ≤ sizeLine then some (!l.isEmpty) else none
  | .lst l => some (!l.isEmpty)
  | .ro l => some (!l.isEmpty)
  | .tup l => some (!l.isEmpty)
  | .dic l => some (!l.isEmpty)
  | _ => none
theorem RepA.isEmpty {F : Hp} {vs : List V} {ds : List D} (h : RepA G F vs ds) : vs.isEmpty = ds.isEmpty := by cases h <;> rfl
theorem RepK.isEmpty {F : Hp} {vs : List (Key × V)} {ds : List (Key × D)} (h : RepK G F vs ds) : vs.isEmpty = ds.isEmpty := by cases h <;> rfl
theorem truthD_ok {F H : Hp} {v : V} {x : D} {b : Bool} (s : Same F H) (r : RepT G F H v x) (e : truthD x = some b) : TruV G.K v H b := by
  rcases r with r | ⟨a, rfl, ow⟩
  · cases r with
    | non => cases e; rfl
    | bl c => cases e; rfl
    | int i => cases e; rfl
    | @str y l h =>
      unfold truthD at e
      dsimp only at e
      have hl : y.length = l.length := by rw [← h]; rfl
      split at e
      · rename_i hz
        cases e
        refine ⟨by rw [hl]; exact hz, ?_⟩
        rw [hl]
        cases l with
        | nil => rfl
        | cons c t =>
          rw [List.length_cons]
          exact (bne_iff_ne.mpr (by omega)).symm
      · cases e
    | lst h ra =>
      cases e
      exact .inl ⟨_, .of (s _ _ h), by rw [ra.isEmpty]⟩
    | ro h ra =>
      cases e
      exact .inl ⟨_, s.seq h, by rw [ra.isEmpty]⟩
    | tup h ra =>
      cases e
      exact .inr (.inl ⟨_, sqT_same s h, by rw [ra.isEmpty]⟩)
    | dic h rk =>
      cases e
      exact .inr (.inr ⟨_, s _ _ h, by rw [rk.isEmpty]⟩)
    | ins _ _ _ => cases e
    | cls _ => cases e
  · cases x with
    | lst ds =>
      obtain ⟨xs, h, ra⟩ := ow
      cases e
      exact .inl ⟨_, .of h, by rw [ra.isEmpty]⟩
    | dic es =>
      obtain ⟨xs, h, ra⟩ := ow
      cases e
      exact .inr (.inr ⟨_, h, by rw [ra.isEmpty]⟩)
    | ins _ _ => cases e
    | _ => exact ow.elim
def mTruth (f : Ex) : List S → R Bool := fun ρ => (mHold f ρ).bind fun h ρ1 => match peekH ρ1 h with
  | some x => (match truthD x with
    | some b => .ok b ρ1
    | none => .bad)
  | none => .bad
theorem mt_truth {a : Expr} {f : Ex} (hK : X.K = G.K) (ha : ME X G g W a f) (he : ∀ whole, isTrue a X.env whole = (do let v ← whole; standAt a.pos; holding [v] (truthy v)) := by intro _; rfl) : MT X G g W a (mTruth f) :=
  pt_imp (pt_truth (me_hold ha) he) fun σ H Q ⟨F, ρ, I, h⟩ => by
    refine ⟨F, ρ, I, h.bind.imp fun F1 H1 ρ1 rv s1 I1 k v r => ?_⟩
    cases q : peekH ρ1 rv with
    | none => rw [q] at k; exact k.elim
    | some x =>
      rw [q] at k
      dsimp only at k
      cases q2 : truthD x with
      | none => rw [q2] at k; exact k.elim
      | some b =>
        rw [q2] at k
        exact ⟨b, by rw [hK]; exact truthD_ok I1.fh (peekH_rep I1 r q) q2, k F1 H1 (.refl _) I1⟩
def mAndT (a b : List S → R Bool) : List S → R Bool := fun ρ => (a ρ).bind fun c ρ1 => if c = true then b ρ1 else .ok false ρ1
def mOrT (a b : List S → R Bool) : List S → R Bool := fun ρ => (a ρ).bind fun c ρ1 => if c = true then .ok true ρ1 else b ρ1
def mNotT (a : List S → R Bool) : List S → R Bool := fun ρ => (a ρ).bind fun c ρ1 => .ok (!c) ρ1
theorem mw_and1 {a : Expr} {f : List S → R Bool} (ha : MT X G g W a f) : MW X G g W (.BoolOp .And [a] pos) f := pw_and1 ha
theorem mw_or1 {a : Expr} {f : List S → R Bool} (ha : MT X G g W a f) : MW X G g W (.BoolOp .Or [a] pos) f := pw_or1 ha
theorem mw_and {a b : Expr} {rest : List Expr} {f h : List S → R Bool} (ha : MT X G g W a f) (hb : MW X G g W (.BoolOp .And (b :: rest) pos) h) : MW X G g W (.BoolOp .And (a :: b :: rest) pos) (mAndT f h) :=
  pw_imp (pw_and ha hb) fun σ H Q ⟨F, ρ, I, k⟩ => ⟨F, ρ, I, k.bind.imp fun F1 H1 ρ1 c s1 I1 k1 => by
    cases c with
    | true => rw [if_pos rfl] at k1 ⊢; exact ⟨F1, ρ1, I1, k1⟩
    | false => rw [if_neg Bool.false_ne_true] at k1 ⊢; exact k1 F1 H1 (.refl _) I1⟩
theorem mw_or {a b : Expr} {rest : List Expr} {f h : List S → R Bool} (ha : MT X G g W a f) (hb : MW X G g W (.BoolOp .Or (b :: rest) pos) h) : MW X G g W (.BoolOp .Or (a :: b :: rest) pos) (mOrT f h) :=
  pw_imp (pw_or ha hb) fun σ H Q ⟨F, ρ, I, k⟩ => ⟨F, ρ, I, k.bind.imp fun F1 H1 ρ1 c s1 I1 k1 => by
    cases c with
    | true => rw [if_pos rfl] at k1 ⊢; exact k1 F1 H1 (.refl _) I1
    | false => rw [if_neg Bool.false_ne_true] at k1 ⊢; exact ⟨F1, ρ1, I1, k1⟩⟩
theorem mt_w {a : Expr} {f : List S → R Bool} (h : MW X G g W a f) : MT X G g W a f := PW.pt h
theorem mt_not {a : Expr} {f : List S → R Bool} (ha : MT X G g W a f) : MT X G g W (.UnaryOp .Not a pos) (mNotT f) :=
  pt_imp (pt_not ha) fun σ H Q ⟨F, ρ, I, k⟩ => ⟨F, ρ, I, k.bind.imp fun F1 H1 ρ1 c s1 I1 k1 => k1 F1 H1 (.refl _) I1⟩
/-! .. as values -/
def mAndV (a b : Ex) : Ex := fun ρ => (mTestB a ρ).bind fun c ρ1 => if c = true then b ρ1 else .ok (.d (.bl false)) ρ1
def mOrV (a b : Ex) : Ex := fun ρ => (mTestB a ρ).bind fun c ρ1 => if c = true then .ok (.d (.bl true)) ρ1 else b ρ1
def mNotV (a : Ex) : Ex := fun ρ => (mTestB a ρ).bind fun c ρ1 => .ok (.d (.bl (!c))) ρ1
theorem me_one {op} {a : Expr} {f : Ex} (h : ME X G g W a f) : ME X G g W (.BoolOp op [a] pos) f := pe_one h
theorem tM_testB' {f : Ex} {σ : L2.St} {F : Hp} {ρ : List S} {K : Hp → Hp → List S → Bool → Prop} (h : Post G g W F σ (mTestB f ρ) K) : Post G g W F σ (f ρ) fun F' H' ρ' rv => ∀ v, RepV G g F' H' ρ' σ v rv → ∃ b, v = .bl b ∧ K F' H' ρ' b :=
  h.bind.imp fun F1 H1 ρ1 rv s1 I1 k v r => by
    cases rv with
    | r i => exact k.elim
    | f x => exact k.elim
    | d x =>
      cases x with
      | bl b =>
        cases r
        exact ⟨b, rfl, k F1 H1 (.refl _) I1⟩
      | _ => exact k.elim
theorem me_and {a b : Expr} {rest : List Expr} {f h : Ex} (ha : ME X G g W a f) (hb : ME X G g W (.BoolOp .And (b :: rest) pos) h) : ME X G g W (.BoolOp .And (a :: b :: rest) pos) (mAndV f h) :=
  pe_imp (pe_and ha hb) fun σ H Q ⟨F, ρ, I, k⟩ => ⟨F, ρ, I, (tM_testB' k.bind).imp fun F1 H1 ρ1 rv s1 I1 k1 v r => by
    obtain ⟨c, rfl, k2⟩ := k1 v r
    refine ⟨c, rfl, ?_⟩
    cases c with
    | true => rw [if_pos rfl] at k2 ⊢; exact ⟨F1, ρ1, I1, k2⟩
    | false => rw [if_neg Bool.false_ne_true] at k2 ⊢; exact k2 F1 H1 (.refl _) I1 _ (.bl _)⟩
theorem me_or {a b : Expr} {rest : List Expr} {f h : Ex} (ha : ME X G g W a f) (hb : ME X G g W (.BoolOp .Or (b :: rest) pos) h) : ME X G g W (.BoolOp .Or (a :: b :: rest) pos) (mOrV f h) :=
  pe_imp (pe_or ha hb) fun σ H Q ⟨F, ρ, I, k⟩ => ⟨F, ρ, I, (tM_testB' k.bind).imp fun F1 H1 ρ1 rv s1 I1 k1 v r => by
    obtain ⟨c, rfl, k2⟩ := k1 v r
    refine ⟨c, rfl, ?_⟩
    cases c with
    | true => rw [if_pos rfl] at k2 ⊢; exact k2 F1 H1 (.refl _) I1 _ (.bl _)
    | false => rw [if_neg Bool.false_ne_true] at k2 ⊢; exact ⟨F1, ρ1, I1, k2⟩⟩
theorem me_not {a : Expr} {f : Ex} (ha : ME X G g W a f) : ME X G g W (.UnaryOp .Not a pos) (mNotV f) :=
  pe_imp (pe_not ha) fun σ H Q ⟨F, ρ, I, k⟩ => ⟨F, ρ, I, (tM_testB' k.bind).imp fun F1 H1 ρ1 rv s1 I1 k1 v r => by
    obtain ⟨c, rfl, k2⟩ := k1 v r
    exact ⟨c, rfl, k2 F1 H1 (.refl _) I1 _ (.bl _)⟩⟩
def mIf (t : List S → R Bool) (a b : Ex) : Ex := fun ρ => (t ρ).bind fun c ρ1 => if c = true then a ρ1 else b ρ1
theorem me_ifExp {c a b : Expr} {t : List S → R Bool} {f h : Ex} (hc : MT X G g W c t) (ha : ME X G g W a f) (hb : ME X G g W b h) : ME X G g W (.IfExp c a b pos) (mIf t f h) :=
  pe_imp (pe_ifExp hc ha hb) fun σ H Q ⟨F, ρ, I, k⟩ => ⟨F, ρ, I, k.bind.imp fun F1 H1 ρ1 c s1 I1 k1 => by
    cases c with
    | true => rw [if_pos rfl] at k1 ⊢; exact ⟨F1, ρ1, I1, k1⟩
    | false => rw [if_neg Bool.false_ne_true] at k1 ⊢; exact ⟨F1, ρ1, I1, k1⟩⟩

/-! ### rows of values -/
def mNil : List S → R (List HV) := fun ρ => .ok [] ρ
def mCons (a : Ex) (r : List S → R (List HV)) : List S → R (List HV) := fun ρ => (mHold a ρ).bind fun h ρ1 => (r ρ1).bind fun hs ρ2 => .ok (h :: hs) ρ2
theorem ma_nil : MA X G g W [] mNil := pa_imp pa_nil fun σ H Q ⟨F, ρ, I, k⟩ => k F H (.refl _) I [] .nil
theorem ma_cons {e : Expr} {es : List Expr} {f : Ex} {r : List S → R (List HV)} (ha : ME X G g W e f) (hr : MA X G g W es r) (hs : starEach (e :: es) X.env = (false, eval e X.env) :: starEach es X.env := by rfl) : MA X G g W (e :: es) (mCons f r) :=
  pa_imp (pa_cons (me_hold ha) hr hs) fun σ H Q ⟨F, ρ, I, k⟩ => ⟨F, ρ, I, k.bind.imp fun F1 H1 ρ1 h s1 I1 k1 v rv => ⟨F1, ρ1, I1, k1.bind.imp fun F2 H2 ρ2 hs s2 I2 k2 vs rvs => k2 F2 H2 (.refl _) I2 _ (.cons (rv.mono s2) rvs)⟩⟩
/-- all of them as data -/
def forceH (h : HV) (ρ : List S) : R D := match h with
  | .d x => .ok x ρ
  | .r i => match ρ[i]? with
    | some (.d x) => .ok x ρ
    | some (.o x) => .ok x (ρ.set i (.d x))
    | _ => .bad
def forceHs : List HV → List S → R (List D)
  | [], ρ => .ok [] ρ
  | h :: hs, ρ => (forceH h ρ).bind fun x ρ1 => (forceHs hs ρ1).bind fun xs ρ2 => .ok (x :: xs) ρ2
theorem forceH_ok {F H : Hp} {ρ ρ' : List S} {σ : L2.St} {v : V} {h : HV} {x : D} (I : Good G g F ρ σ H) (r : RepH G F σ v h) (e : forceH h ρ = .ok x ρ') : ∃ F', Same F F' ∧ Good G g F' ρ' σ H ∧ Rep G F' v x := by
  cases h with
  | d y => exact forceRV_ok (rv := .d y) I r e
  | r i => exact forceRV_ok (rv := .r i) I r e
theorem forceH_ex {h : HV} {ρ ρ' : List S} {e : Exn} (q : forceH h ρ = .ex e ρ') : False := by
  cases h with
  | d y => exact forceRV_ex (rv := .d y) q
  | r i => exact forceRV_ex (rv := .r i) q
theorem forceHs_ok {H : Hp} {σ : L2.St} : ∀ {hs : List HV} {vs : List V} {F : Hp} {ρ ρ' : List S} {xs : List D}, Good G g F ρ σ H → RepHs G F σ vs hs → forceHs hs ρ = .ok xs ρ' → ∃ F', Same F F' ∧ Good G g F' ρ' σ H ∧ RepA G F' vs xs
  | [], _, F, _, _, _, I, r, e => by
    cases e
    cases r
    exact ⟨F, .refl _, I, .nil⟩
  | h :: hs, _, F, ρ, _, _, I, .cons a b, e => by
    unfold forceHs at e
    cases q : forceH h ρ with
    | bad => rw [q] at e; cases e
    | ex _ _ => rw [q] at e; cases e
    | ok x ρ1 =>
      rw [q] at e
      obtain ⟨F1, s1, I1, r1⟩ := forceH_ok I a q
      have e : ((forceHs hs ρ1).bind fun xs ρ2 => R.ok (x :: xs) ρ2) = _ := e
      cases q2 : forceHs hs ρ1 with
      | bad => rw [q2] at e; cases e
      | ex _ _ => rw [q2] at e; cases e
      | ok xs ρ2 =>
        rw [q2] at e
        cases e
        obtain ⟨F2, s2, I2, r2⟩ := forceHs_ok I1 (b.mono s1) q2
        exact ⟨F2, s1.trans s2, I2, .cons (r1.mono s2) r2⟩
theorem forceHs_ex : ∀ {hs : List HV} {ρ ρ' : List S} {e : Exn}, forceHs hs ρ = .ex e ρ' → False
  | [], _, _, _, q => by cases q
  | h :: hs, ρ, _, _, q => by
    unfold forceHs at q
    cases q1 : forceH h ρ with
    | bad => rw [q1] at q; cases q
    | ex _ _ => exact forceH_ex q1
    | ok x ρ1 =>
      rw [q1] at q
      have q : ((forceHs hs ρ1).bind fun xs ρ2 => R.ok (x :: xs) ρ2) = _ := q
      cases q2 : forceHs hs ρ1 with
      | bad => rw [q2] at q; cases q
      | ex _ _ => exact forceHs_ex q2
      | ok xs ρ2 => rw [q2] at q; cases q
theorem Post.forced {F H : Hp} {ρ : List S} {σ : L2.St} {hs : List HV} {vs : List V} {K : Hp → Hp → List S → List D → Prop} (I : Good G g F ρ σ H) (r : RepHs G F σ vs hs) (k : Post G g W F σ (forceHs hs ρ) K) : ∃ F' ρ' xs, Same F F' ∧ Good G g F' ρ' σ H ∧ RepA G F' vs xs ∧ K F' H ρ' xs := by
  cases q : forceHs hs ρ with
  | bad => rw [q] at k; exact k.elim
  | ex _ _ => exact (forceHs_ex q).elim
  | ok xs ρ' =>
    rw [q] at k
    obtain ⟨F', s, I', r'⟩ := forceHs_ok I r q
    exact ⟨F', ρ', xs, s, I', r', k F' H s I'⟩
def mTup (r : List S → R (List HV)) : Ex := fun ρ => (r ρ).bind fun hs ρ1 => (forceHs hs ρ1).bind fun xs ρ2 => if xs.length ≤ sizeLine then .ok (.d (.tup xs)) ρ2 else .bad
def mLst (r : List S → R (List HV)) : Ex := fun ρ => (r ρ).bind fun hs ρ1 => (forceHs hs ρ1).bind fun xs ρ2 => if xs.length ≤ sizeLine then .ok (.f (.lst xs)) ρ2 else .bad
theorem me_tup {es : List Expr} {x1} {r : List S → R (List HV)} (h : MA X G g W es r) : ME X G g W (.Tuple es x1 pos) (mTup r) :=
  pe_imp (pe_tup h) fun σ H Q ⟨F, ρ, I, k⟩ => ⟨F, ρ, I, k.bind.imp fun F1 H1 ρ1 hs s1 I1 k1 vs rv => by
    obtain ⟨F2, ρ2, xs, s2, I2, ra, k2⟩ := Post.forced I1 rv k1.bind
    split at k2
    · rename_i hz
      refine ⟨by rw [ra.length]; exact hz, fun q nq => ?_⟩
      have st := Step.frozen (o := .tup vs) I2.fh nq
      exact k2 _ _ st.ff (I2.step st) _ (.tup (.of upd_same) (ra.mono st.ff))
    · exact k2.elim⟩
theorem me_lst {es : List Expr} {r : List S → R (List HV)} (h : MA X G g W es r) : ME X G g W (.List es pos) (mLst r) :=
  pe_imp (pe_lst h) fun σ H Q ⟨F, ρ, I, k⟩ => ⟨F, ρ, I, k.bind.imp fun F1 H1 ρ1 hs s1 I1 k1 vs rv => by
    obtain ⟨F2, ρ2, xs, s2, I2, ra, k2⟩ := Post.forced I1 rv k1.bind
    split at k2
    · rename_i hz
      refine ⟨by rw [ra.length]; exact hz, fun q nq => ?_⟩
      have st := Step.new (o := .lst vs) I2.fh nq
      have ro : RepO G H1 F2 (upd H1 q (.lst vs)) (.ref q) (.f (.lst xs)) := ⟨q, rfl, .of nq, I2.fh.free nq, vs, upd_same, ra⟩
      exact k2 _ _ st.ff (I2.step st) _ (ro.toV I2 st)
    · exact k2.elim⟩

/-! ### built-in functions by data -/
def rCD (G : GG) (f : List D → Option RV) : List V → Hp → VK → Prop := fun vs H Q => ∃ F xs rv, Same F H ∧ RepTs G F H vs xs ∧ f xs = some rv ∧ ∀ F' H' w, Step F H F' H' → RepO G H F' H' w rv → Q w H'
def mCB (f : List D → Option RV) (r : List S → R (List HV)) : Ex := fun ρ => (r ρ).bind fun hs ρ1 => match peekHs ρ1 hs with
  | some xs => ret (f xs) ρ1
  | none => .bad
theorem tM_cb {f : List D → Option RV} {r : List S → R (List HV)} {σ : L2.St} {H : Hp} {Q : VK} (h : tM G g W (mCB f r) σ H Q) : tCB (rCD G f) (tMA G g W r) σ H Q := by
  obtain ⟨F, ρ, I, h⟩ := h
  refine ⟨F, ρ, I, h.bind.imp fun F1 H1 ρ1 hs s1 I1 k vs rv => ?_⟩
  cases q1 : peekHs ρ1 hs with
  | none => rw [q1] at k; exact k.elim
  | some xs =>
    rw [q1] at k
    dsimp only at k
    unfold ret at k
    cases q3 : f xs with
    | none => rw [q3] at k; exact k.elim
    | some o =>
      rw [q3] at k
      exact ⟨F1, xs, o, I1.fh, peekHs_rep I1 rv q1, q3, fun F3 H3 w st ro => k F3 H3 st.ff (I1.step st) w (ro.toV I1 st)⟩
theorem me_callB {x : Str} {id : String} {f : List D → Option RV} {e : Expr} {es : List Expr} {r : List S → R (List HV)} (hc : CallR X (.builtin id) (rCD G f)) (hg : Gl X x) (hm : X.mg x = none) (hv : bootBuiltins x = some (.builtin id)) (ha : MA X G g W (e :: es) r)
    (hn : x ≠ "__name__" := by decide) (hdb : (x == ("__debug__" : Str)) = false := by decide) (he : starEach (e :: es) X.env = (false, eval e X.env) :: starEach es X.env := by rfl) (hpl : (backTo pos (starEach es X.env)).any (·.1) = false := by rfl) :
    ME X G g W (.Call (.Name x p) (e :: es) [] pos) (mCB f r) := pe_imp (pe_callB hc hg hm hv ha hn hdb he hpl) fun _ _ _ => tM_cb
theorem me_callTy {x : Str} {T : String} {f : List D → Option RV} {e : Expr} {es : List Expr} {r : List S → R (List HV)} (hc : CallR X (.type T) (rCD G f)) (hg : Gl X x) (hm : X.mg x = none) (hv : bootBuiltins x = some (.type T)) (ha : MA X G g W (e :: es) r)
    (hn : x ≠ "__name__" := by decide) (hdb : (x == ("__debug__" : Str)) = false := by decide) (he : starEach (e :: es) X.env = (false, eval e X.env) :: starEach es X.env := by rfl) (hpl : (backTo pos (starEach es X.env)).any (·.1) = false := by rfl) :
    ME X G g W (.Call (.Name x p) (e :: es) [] pos) (mCB f r) := pe_imp (pe_callTy hc hg hm hv ha hn hdb he hpl) fun _ _ _ => tM_cb

/-! ### subscripts, slices -/
theorem me_ix {a b : Expr} {od : D → D → Option RV} {f h : Ex} (hr : IxR X (rD G od)) (ha : ME X G g W a f) (hb : ME X G g W b h) (hs : PlainIx b := by exact fun _ _ => rfl) : ME X G g W (.Subscript a b pos) (mBin od f h) :=
  pe_imp (pe_ix hr (me_hold ha) (me_hold hb) hs) fun _ _ _ => tM_bin
/-! a part of a slice -/
def mNoPart : List S → R (Option Int) := fun ρ => .ok none ρ
def mPart (f : Ex) : List S → R (Option Int) := fun ρ => (f ρ).bind fun rv ρ1 => match rv with
  | .d (.int i) => .ok (some i) ρ1
  | _ => .bad
def tMO (G : GG) (g : Gh) (W : WX) (f : List S → R (Option Int)) : TO := fun σ H Q => ∃ F ρ, Good G g F ρ σ H ∧ Post G g W F σ (f ρ) fun _ H' _ b => Q b H'
abbrev MO (X : Cx) (G : GG) (g : Gh) (W : WX) (e : Option Expr) (f : List S → R (Option Int)) : Prop := PO X e (tMO G g W f)
theorem po_imp {e : Option Expr} {t t' : TO} (h : PO X e t) (i : ∀ σ H Q, t' σ H Q → t σ H Q) : PO X e t' := ⟨fun pins s σ H Q I w => h.run pins s σ H Q I (i σ H Q w)⟩
theorem mo_none : MO X G g W none mNoPart := po_imp po_none fun σ H Q ⟨F, ρ, I, k⟩ => k F H (.refl _) I
theorem mo_some {e : Expr} {f : Ex} (h : ME X G g W e f) : MO X G g W (some e) (mPart f) := po_imp (po_some h) fun σ H Q ⟨F, ρ, I, k⟩ => ⟨F, ρ, I, k.bind.imp fun F1 H1 ρ1 rv s1 I1 k1 v r => by
  cases rv with
  | r i => exact k1.elim
  | f x => exact k1.elim
  | d x =>
    cases x with
    | int i =>
      cases r
      exact ⟨i, rfl, k1 F1 H1 (.refl _) I1⟩
    | _ => exact k1.elim⟩
def rSD (G : GG) (od : D → Option Int → Option Int → Option RV) : V → Option Int → Option Int → Hp → VK → Prop := fun v lo hi H Q => ∃ F x rv, Same F H ∧ RepT G F H v x ∧ od x lo hi = some rv ∧ ∀ F' H' w, Step F H F' H' → RepO G H F' H' w rv → Q w H'
def mSlice (od : D → Option Int → Option Int → Option RV) (a : Ex) (l u : List S → R (Option Int)) : Ex := fun ρ => (mHold a ρ).bind fun ha ρ1 => (l ρ1).bind fun lo ρ2 => (u ρ2).bind fun hi ρ3 => match peekH ρ3 ha with
  | some x => ret (od x lo hi) ρ3
  | none => .bad
theorem me_slice {a : Expr} {lo hi : Option Expr} {p2 : Pos} {od : D → Option Int → Option Int → Option RV} {f : Ex} {l u : List S → R (Option Int)} (hr : SlR X (rSD G od)) (ha : ME X G g W a f) (hl : MO X G g W lo l) (hu : MO X G g W hi u) : ME X G g W (.Subscript a (.Slice lo hi none p2) pos) (mSlice od f l u) :=
  pe_imp (pe_slice hr (me_hold ha) hl hu) fun σ H Q ⟨F, ρ, I, k⟩ => ⟨F, ρ, I, k.bind.imp fun F1 H1 ρ1 ra s1 I1 k1 v r => ⟨F1, ρ1, I1, k1.bind.imp fun F2 H2 ρ2 lo s2 I2 k2 => ⟨F2, ρ2, I2, k2.bind.imp fun F3 H3 ρ3 hi s3 I3 k3 => by
    cases q1 : peekH ρ3 ra with
    | none => rw [q1] at k3; exact k3.elim
    | some x =>
      rw [q1] at k3
      dsimp only at k3
      unfold ret at k3
      cases q3 : od x lo hi with
      | none => rw [q3] at k3; exact k3.elim
      | some o =>
        rw [q3] at k3
        exact ⟨F3, x, o, I3.fh, peekH_rep I3 ((r.mono s2).mono s3) q1, q3, fun F4 H4 w st ro => k3 F4 H4 st.ff (I3.step st) w (ro.toV I3 st)⟩⟩⟩⟩

/-! ### methods of built-in types that change nothing -/
def rMD (G : GG) (f : D → List D → Option RV) : V → List V → Hp → VK → Prop := fun v vs H Q => ∃ F x xs rv, Same F H ∧ RepT G F H v x ∧ RepTs G F H vs xs ∧ f x xs = some rv ∧ ∀ F' H' w, Step F H F' H' → RepO G H F' H' w rv → Q w H'
/-- which type's methods -/
def isTy (T : String) : D → Bool
  | .str _ => T == "str"
  | .lst _ => T == "list"
  | .dic _ => T == "dict"
  | .tup _ => T == "tuple"
  | _ => false
def mBM (T : String) (f : D → List D → Option RV) (a : Ex) (r : List S → R (List HV)) : Ex := fun ρ => (mHold a ρ).bind fun ha ρ1 => match peekH ρ1 ha with
  | some x0 => if isTy T x0 = true then (r ρ1).bind fun hs ρ2 => (match peekH ρ2 ha, peekHs ρ2 hs with
    | some x, some xs => ret (f x xs) ρ2
    | _, _ => .bad) else .bad
  | none => .bad
theorem isTy_ok {F H : Hp} {T : String} {v : V} {x : D} (s : Same F H) (r : RepT G F H v x) (e : isTy T x = true) (ht : T ≠ "tuple") : tyV G.K T v H := by
  rcases r with r | ⟨a, rfl, ow⟩
  · cases r with
    | str h => exact beq_iff_eq.mp e
    | lst h ra => exact .inl ⟨beq_iff_eq.mp e, _, .of (s _ _ h)⟩
    | ro _ _ => cases e
    | dic h rk => exact .inr (.inr (.inl ⟨beq_iff_eq.mp e, .inl ⟨_, s _ _ h⟩⟩))
    | tup h ra => exact absurd (beq_iff_eq.mp e) ht
    | non => cases e
    | bl _ => cases e
    | int _ => cases e
    | ins _ _ _ => cases e
    | cls _ => cases e
  · cases x with
    | lst ds =>
      obtain ⟨xs, h, ra⟩ := ow
      exact .inl ⟨beq_iff_eq.mp e, _, .of h⟩
    | dic es =>
      obtain ⟨xs, h, ra⟩ := ow
      exact .inr (.inr (.inl ⟨beq_iff_eq.mp e, .inl ⟨_, h⟩⟩))
    | ins _ _ => cases e
    | _ => exact ow.elim
theorem tM_bm {T : String} {f : D → List D → Option RV} {a : Ex} {r : List S → R (List HV)} (ht : T ≠ "tuple") {σ : L2.St} {H : Hp} {Q : VK} (h : tM G g W (mBM T f a r) σ H Q) :
    tMH G g W (mHold a) σ H fun v H1 => tyV G.K T v H1 ∧ tMA G g W r σ H1 fun vs H2 => rMD G f v vs H2 Q := by
  obtain ⟨F, ρ, I, h⟩ := h
  refine ⟨F, ρ, I, h.bind.imp fun F1 H1 ρ1 ha s1 I1 k v rv => ?_⟩
  cases q0 : peekH ρ1 ha with
  | none => rw [q0] at k; exact k.elim
  | some x0 =>
    rw [q0] at k
    dsimp only at k
    split at k
    · rename_i hT
      refine ⟨isTy_ok I1.fh (peekH_rep I1 rv q0) hT ht, F1, ρ1, I1, k.bind.imp fun F2 H2 ρ2 hs s2 I2 k2 vs rvs => ?_⟩
      cases q1 : peekH ρ2 ha with
      | none => rw [q1] at k2; exact k2.elim
      | some x =>
        rw [q1] at k2
        cases q2 : peekHs ρ2 hs with
        | none => rw [q2] at k2; exact k2.elim
        | some xs =>
          rw [q2] at k2
          dsimp only at k2
          unfold ret at k2
          cases q3 : f x xs with
          | none => rw [q3] at k2; exact k2.elim
          | some o =>
            rw [q3] at k2
            exact ⟨F2, x, xs, o, I2.fh, peekH_rep I2 (rv.mono s2) q1, peekHs_rep I2 rvs q2, q3, fun F3 H3 w st ro => k2 F3 H3 st.ff (I2.step st) w (ro.toV I2 st)⟩
    · exact k.elim
theorem me_bm0 {T id : String} {name : Str} {o : Expr} {f : D → List D → Option RV} {a : Ex} (hK : X.K = G.K) (pa : PlainAttrs T) (slot : Slot T name id) (hty : typeOf (.builtin id) = pure (.type "method_descriptor")) (hm : MtR X id (rMD G f)) (ho : ME X G g W o a)
    (ht : T ≠ "tuple" := by decide) (hbase : attributeBase o name X.env (eval o X.env) = eval o X.env := by rfl) (hline : (apos.endLine == pos.line) = true := by rfl) :
    ME X G g W (.Call (.Attribute o name apos) [] [] pos) (mBM T f a mNil) :=
  pe_imp (pe_bm0 pa slot hty hm (me_hold ho) hbase hline) fun σ H Q k => by
    obtain ⟨F, ρ, I, k⟩ := tM_bm ht k
    refine ⟨F, ρ, I, k.imp fun F1 H1 ρ1 ha s1 I1 k1 v rv => ?_⟩
    obtain ⟨e1, F2, ρ2, I2, e2⟩ := k1 v rv
    exact ⟨by rw [hK]; exact e1, e2 F2 H1 (.refl _) I2 [] .nil⟩
theorem me_bm {T id : String} {name : Str} {o e : Expr} {es : List Expr} {f : D → List D → Option RV} {a : Ex} {r : List S → R (List HV)} (hK : X.K = G.K) (pa : PlainAttrs T) (slot : Slot T name id) (hty : typeOf (.builtin id) = pure (.type "method_descriptor")) (hm : MtR X id (rMD G f)) (ho : ME X G g W o a) (hr : MA X G g W (e :: es) r)
    (ht : T ≠ "tuple" := by decide) (hbase : attributeBase o name X.env (eval o X.env) = eval o X.env := by rfl)
    (hfew : ((backTo pos (starEach (e :: es) X.env)).all (fun x => !x.1) && (backToKw pos (keywordEach [] X.env)).all (fun x => x.1.isSome)
      && decide ((e :: es).length + ([] : List Keyword).length + (if ([] : List Keyword).isEmpty then 0 else 1) < 30)) = true := by rfl)
    (hline : (apos.endLine == pos.line) = true := by rfl) (hs : starEach (e :: es) X.env = (false, eval e X.env) :: starEach es X.env := by rfl) (hplain : (backTo pos (starEach es X.env)).any (·.1) = false := by rfl) :
    ME X G g W (.Call (.Attribute o name apos) (e :: es) [] pos) (mBM T f a r) :=
  pe_imp (pe_bm pa slot hty hm (me_hold ho) hr hbase hfew hline hs hplain) fun σ H Q k => by
    obtain ⟨F, ρ, I, k⟩ := tM_bm ht k
    exact ⟨F, ρ, I, k.imp fun F1 H1 ρ1 ha s1 I1 k1 v rv => ⟨by rw [hK]; exact (k1 v rv).1, (k1 v rv).2⟩⟩
end
end MM
set_option Elab.async false
set_option maxRecDepth 100000
set_option maxHeartbeats 2000000
namespace MM
open PySem PySem.Spec PyProof.Rows L2
section
variable {X : Cx} {G : GG} {g : Gh} {W : WX} {pos p apos : Pos}

/-! ### storing -/
def S.isP : S → Bool
  | .p _ => true
  | _ => false
/-- data to a slot; a parameter's object is never lost -/
def putD (i : Nat) (x : D) (ρ : List S) : Option (List S) := match ρ[i]? with
  | some (.p _) => none
  | some _ => some (ρ.set i (.d x))
  | none => none
def putRV (i : Nat) (rv : RV) (ρ : List S) : Option (List S) := match rv with
  | .d x => putD i x ρ
  | .f x => (match ρ[i]? with
    | some (.p _) => none
    | some _ => some (ρ.set i (.o x))
    | none => none)
  | .r j => (match ρ[j]? with
    | some (.d x) => putD i x ρ
    | some (.o x) => putD i x (ρ.set j (.d x))
    | _ => none)
section
variable {F F' H H' : Hp} {ρ ρ' : List S} {σ : L2.St}
theorem Good.putD (I : Good G g F ρ σ H) {i : Nat} {x : D} {v : V} (r : Rep G F v x) (e : putD i x ρ = some ρ') : Good G g F ρ' (σ.set i (some v)) H := by
  unfold MM.putD at e
  cases q : ρ[i]? with
  | none => rw [q] at e; cases e
  | some s0 =>
    have hi : i < ρ.length := (List.getElem?_eq_some_iff.mp q).1
    have hiσ : i < σ.length := by rw [I.len]; exact hi
    have e' : s0.isP = false ∧ ρ' = ρ.set i (.d x) := by
      rw [q] at e
      cases s0 <;> first | (cases e; exact ⟨rfl, rfl⟩) | cases e
    obtain ⟨hp, rfl⟩ := e'
    have other : ∀ (j : Nat) (s : S), (ρ.set i (.d x))[j]? = some s → s.own ≠ none → j ≠ i ∧ ρ[j]? = some s ∧ (σ.set i (some v))[j]? = σ[j]? := fun j s hj ho => by
      by_cases z : j = i
      · subst z
        rw [List.getElem?_set_self hi] at hj
        cases hj
        exact absurd rfl ho
      · rw [List.getElem?_set_ne (Ne.symm z)] at hj
        exact ⟨z, hj, List.getElem?_set_ne (Ne.symm z)⟩
    exact { len := by rw [List.length_set, List.length_set]; exact I.len
            fh := I.fh
            f0 := I.f0
            keep := I.keep
            nt := I.nt
            tabs := I.tabs
            fresh := I.fresh
            dat := fun j y hj => by
              by_cases z : j = i
              · subst z
                rw [List.getElem?_set_self hi] at hj
                cases hj
                exact ⟨v, List.getElem?_set_self hiσ, r⟩
              · rw [List.getElem?_set_ne (Ne.symm z)] at hj ⊢
                exact I.dat j y hj
            obj := fun j y hj => by
              obtain ⟨z, hj', es⟩ := other j _ hj (by simp [S.own])
              rw [es]
              exact I.obj j y hj'
            prm := fun j y hj => by
              obtain ⟨z, hj', es⟩ := other j _ hj (by simp [S.own])
              rw [es]
              exact I.prm j y hj'
            par := fun j b hj => by
              obtain ⟨⟨y, hy⟩, ho⟩ := I.par j b hj
              refine ⟨⟨y, ?_⟩, ho⟩
              rw [List.getElem?_set_ne]
              · exact hy
              · intro z
                subst z
                rw [q] at hy; cases hy
                cases hp
            apart := fun j k s t b hjk h1 h2 h3 h4 h5 => by
              obtain ⟨_, h1', e1⟩ := other j s h1 h3
              obtain ⟨_, h2', e2⟩ := other k t h2 h4
              rw [e2]
              rw [e1] at h5
              exact I.apart j k s t b hjk h1' h2' h3 h4 h5
            tmp := fun t ht => by
              obtain ⟨h2, h3, h4, h5⟩ := I.tmp t ht
              refine ⟨h2, h3, h4, fun j s hj hs => ?_⟩
              obtain ⟨_, hj', es⟩ := other j s hj hs
              rw [es]
              exact h5 j s hj' hs }
theorem Good.putF (I : Good G g F ρ σ H) {i : Nat} {x : D} {v : V} (r : RepV G g F H ρ σ v (.f x)) (e : putRV i (.f x) ρ = some ρ') : Good G g F ρ' (σ.set i (some v)) H := by
  unfold putRV at e
  dsimp only at e
  cases q : ρ[i]? with
  | none => rw [q] at e; cases e
  | some s0 =>
    have hi : i < ρ.length := (List.getElem?_eq_some_iff.mp q).1
    have hiσ : i < σ.length := by rw [I.len]; exact hi
    have e' : s0.isP = false ∧ ρ' = ρ.set i (.o x) := by
      rw [q] at e
      cases s0 <;> first | (cases e; exact ⟨rfl, rfl⟩) | cases e
    obtain ⟨hp, rfl⟩ := e'
    obtain ⟨a, rfl, n, h0, ow, ap, nT⟩ := r
    have other : ∀ (j : Nat) (s : S), (ρ.set i (.o x))[j]? = some s → (j = i ∧ s = .o x) ∨ (j ≠ i ∧ ρ[j]? = some s ∧ (σ.set i (some (V.ref a)))[j]? = σ[j]?) := fun j s hj => by
      by_cases z : j = i
      · subst z
        rw [List.getElem?_set_self hi] at hj
        cases hj
        exact .inl ⟨rfl, rfl⟩
      · rw [List.getElem?_set_ne (Ne.symm z)] at hj
        exact .inr ⟨z, hj, List.getElem?_set_ne (Ne.symm z)⟩
    exact { len := by rw [List.length_set, List.length_set]; exact I.len
            fh := I.fh
            f0 := I.f0
            keep := I.keep
            nt := I.nt
            tabs := I.tabs
            fresh := I.fresh
            dat := fun j y hj => by
              rcases other j _ hj with ⟨_, z⟩ | ⟨_, hj', es⟩
              · cases z
              · rw [es]
                exact I.dat j y hj'
            obj := fun j y hj => by
              rcases other j _ hj with ⟨z1, z⟩ | ⟨_, hj', es⟩
              · cases z
                subst z1
                exact ⟨a, List.getElem?_set_self hiσ, n, ow, h0⟩
              · rw [es]
                exact I.obj j y hj'
            prm := fun j y hj => by
              rcases other j _ hj with ⟨z1, z⟩ | ⟨_, hj', es⟩
              · cases z
              · rw [es]
                exact I.prm j y hj'
            par := fun j b hj => by
              obtain ⟨⟨y, hy⟩, ho⟩ := I.par j b hj
              refine ⟨⟨y, ?_⟩, ho⟩
              rw [List.getElem?_set_ne]
              · exact hy
              · intro z
                subst z
                rw [q] at hy; cases hy
                cases hp
            apart := fun j k s t b hjk h1 h2 h3 h4 h5 => by
              rcases other j s h1 with ⟨z1, z⟩ | ⟨_, h1', e1⟩
              · subst z1
                rw [List.getElem?_set_self hiσ] at h5
                cases h5
                rcases other k t h2 with ⟨z2, _⟩ | ⟨_, h2', e2⟩
                · exact absurd z2.symm hjk
                · rw [e2]
                  exact ap k t h2' h4
              · rw [e1] at h5
                rcases other k t h2 with ⟨z2, _⟩ | ⟨_, h2', e2⟩
                · subst z2
                  rw [List.getElem?_set_self hiσ]
                  intro z
                  cases z
                  exact ap j s h1' h3 h5
                · rw [e2]
                  exact I.apart j k s t b hjk h1' h2' h3 h4 h5
            tmp := fun t ht => by
              obtain ⟨h2, h3, h4, h5⟩ := I.tmp t ht
              refine ⟨h2, h3, h4, fun j s hj hs => ?_⟩
              rcases other j s hj with ⟨z1, _⟩ | ⟨_, hj', es⟩
              · subst z1
                rw [List.getElem?_set_self hiσ]
                intro z
                cases z
                exact nT t ht rfl
              · rw [es]
                exact h5 j s hj' hs }
theorem Good.putRV (I : Good G g F ρ σ H) {i : Nat} {rv : RV} {v : V} (r : RepV G g F H ρ σ v rv) (e : putRV i rv ρ = some ρ') : ∃ F', Same F F' ∧ Good G g F' ρ' (σ.set i (some v)) H := by
  cases rv with
  | d x => exact ⟨F, .refl _, I.putD r e⟩
  | f x => exact ⟨F, .refl _, I.putF r e⟩
  | r j =>
    have r : σ[j]? = some (some v) := r
    unfold MM.putRV at e
    dsimp only at e
    cases q : ρ[j]? with
    | none => rw [q] at e; cases e
    | some s =>
      rw [q] at e
      cases s with
      | un => cases e
      | p y => cases e
      | d y =>
        obtain ⟨u, h1, h2⟩ := I.dat j _ q
        rw [r] at h1; cases h1
        exact ⟨F, .refl _, I.putD h2 e⟩
      | o y =>
        obtain ⟨F', a, s1, I', e1, r1⟩ := I.freezeR q
        rw [r] at e1; cases e1
        exact ⟨F', s1, I'.putD r1 e⟩
end

/-! ### statements -/
def Out.of {α : Type} (r : R α) (k : α → List S → Out) : Out := match r with
  | .ok a ρ => k a ρ
  | .ex e ρ => .ex e ρ
  | .bad => .bad
theorem PostS.of {F : Hp} {σ : L2.St} {α : Type} {r : R α} {k : α → List S → Out} {Dd : Ends} (h : PostS G g W F (Out.of r k) Dd) : Post G g W F σ r fun F' _ ρ' a => PostS G g W F' (k a ρ') Dd := by
  cases r with
  | ok a ρ => exact fun F2 H2 s2 _ => h.mono s2
  | ex e ρ => exact fun F2 H2 c d s2 => h F2 H2 σ c d s2
  | bad => exact h
def sNext : Sm := fun ρ => .nx ρ
def sSeq (a b : Sm) : Sm := fun ρ => match a ρ with
  | .nx ρ1 => b ρ1
  | o => o
theorem mss_nil : MSs X G g W [] sNext := pss_imp pss_nil fun D σ H ⟨F, ρ, I, k⟩ => k F H σ (.refl _) I
theorem mss_one {st : Stmt} {m : Sm} (h : MS X G g W st m) : MSs X G g W [st] m := pss_one h
theorem mss_cons {st : Stmt} {rest : List Stmt} {a b : Sm} (h1 : MS X G g W st a) (h2 : MSs X G g W rest b) : MSs X G g W (st :: rest) (sSeq a b) :=
  pss_imp (pss_cons h1 h2) fun D σ H ⟨F, ρ, I, k⟩ => by
    refine ⟨F, ρ, I, ?_⟩
    unfold sSeq at k
    cases q : a ρ with
    | nx ρ1 =>
      rw [q] at k
      exact fun F1 H1 σ1 s1 I1 => ⟨F1, ρ1, I1, PostS.mono k s1⟩
    | rt r ρ1 => rw [q] at k; exact k
    | bk ρ1 => rw [q] at k; exact k
    | ct ρ1 => rw [q] at k; exact k
    | ex e ρ1 => rw [q] at k; exact k
    | bad => rw [q] at k; exact k
theorem ms_pass : MS X G g W (.Pass pos) sNext := ps_imp ps_pass fun D σ H ⟨F, ρ, I, k⟩ => k F H σ (.refl _) I
def sBreak : Sm := fun ρ => .bk ρ
def sCont : Sm := fun ρ => .ct ρ
theorem ms_break : MS X G g W (.Break pos) sBreak := ps_imp ps_break fun D σ H ⟨F, ρ, I, k⟩ => k F H σ (.refl _) I
theorem ms_cont : MS X G g W (.Continue pos) sCont := ps_imp ps_continue fun D σ H ⟨F, ρ, I, k⟩ => k F H σ (.refl _) I
def sRet (f : Ex) : Sm := fun ρ => Out.of (f ρ) fun rv ρ1 => .rt rv ρ1
theorem ms_ret {e : Expr} {f : Ex} (h : ME X G g W e f) : MS X G g W (.Return (some e) pos) (sRet f) := ps_imp (ps_ret h) fun D σ H ⟨F, ρ, I, k⟩ =>
  ⟨F, ρ, I, (PostS.of k).imp fun F1 H1 ρ1 rv s1 I1 k1 v r => k1 F1 H1 σ v (.refl _) I1 r⟩
def sRetN : Sm := fun ρ => .rt (.d .non) ρ
theorem ms_retN : MS X G g W (.Return none pos) sRetN := ps_imp ps_retN fun D σ H ⟨F, ρ, I, k⟩ => k F H σ _ (.refl _) I .non
def sExpr (f : Ex) : Sm := fun ρ => Out.of (f ρ) fun _ ρ1 => .nx ρ1
theorem ms_expr {e : Expr} {f : Ex} (h : ME X G g W e f) (hs : swapsWith e none pos.line X.env = pure false := by rfl) : MS X G g W (.Expr e pos) (sExpr f) := ps_imp (ps_expr h hs) fun D σ H ⟨F, ρ, I, k⟩ =>
  ⟨F, ρ, I, (PostS.of k).imp fun F1 H1 ρ1 rv s1 I1 k1 v r => k1 F1 H1 σ (.refl _) I1⟩
def sIf (t : List S → R Bool) (a b : Sm) : Sm := fun ρ => Out.of (t ρ) fun c ρ1 => if c = true then a ρ1 else b ρ1
theorem ms_if {c : Expr} {a b : List Stmt} {t : List S → R Bool} {ma mb : Sm} (hc : MT X G g W c t) (ha : MSs X G g W a ma) (hb : MSs X G g W b mb) : MS X G g W (.If c a b pos) (sIf t ma mb) := ps_imp (ps_if hc ha hb) fun D σ H ⟨F, ρ, I, k⟩ =>
  ⟨F, ρ, I, (PostS.of k).imp fun F1 H1 ρ1 c s1 I1 k1 => by
    cases c with
    | true => rw [if_pos rfl] at k1 ⊢; exact ⟨F1, ρ1, I1, k1⟩
    | false => rw [if_neg Bool.false_ne_true] at k1 ⊢; exact ⟨F1, ρ1, I1, k1⟩⟩
def nxO : Option (List S) → Out
  | some ρ => .nx ρ
  | none => .bad
/-- name = value -/
def sSet (i : Nat) (f : Ex) : Sm := fun ρ => Out.of (f ρ) fun rv ρ1 => nxO (putRV i rv ρ1)
theorem set_go {i : Nat} {f : Ex} {D : Ends} {σ : L2.St} {H : Hp} (h : tMS G g W (sSet i f) D σ H) : tM G g W f σ H fun x H1 => gName i x σ H1 D.nx := by
  obtain ⟨F, ρ, I, k⟩ := h
  refine ⟨F, ρ, I, (PostS.of k).imp fun F1 H1 ρ1 rv s1 I1 k1 v r => ?_⟩
  cases q : putRV i rv ρ1 with
  | none => rw [q] at k1; exact k1.elim
  | some ρ2 =>
    rw [q] at k1
    obtain ⟨F2, s2, I2⟩ := I1.putRV r q
    exact k1 F2 H1 _ s2 I2
theorem ms_set {i : Nat} {x : Str} {e : Expr} {f : Ex} {pos' : Pos} (hN : X.N.Nodup) (hi : X.N[i]? = some x) (hx : Loc X.env.scope x) (h : ME X G g W e f) (hs : swapsWith e (some (.Name x pos')) pos.line X.env = pure false := by rfl)
    (hf : X.fn x = true ∨ X.env.scope.names.lookup x = some .local := by first | exact .inl rfl | exact .inr rfl | assumption) : MS X G g W (.Assign [.Name x pos'] e pos) (sSet i f) := ps_imp (ps_set hN hi hx h hs hf) fun D σ H => set_go
/-! targets -/
inductive Tg where
  | nm (i : Nat) | tp (l : List Tg)
mutual
def Tg.put : Tg → D → List S → Option (List S)
  | .nm i, x, ρ => putD i x ρ
  | .tp l, .tup xs, ρ => if xs.length = l.length then Tg.puts l xs ρ else none
  | .tp l, .lst xs, ρ => if xs.length = l.length then Tg.puts l xs ρ else none
  | .tp _, _, _ => none
def Tg.puts : List Tg → List D → List S → Option (List S)
  | [], [], ρ => some ρ
  | t :: ts, x :: xs, ρ => (t.put x ρ).bind fun ρ1 => Tg.puts ts xs ρ1
  | _, _, _ => none
end
mutual
def Tg.ixs : Tg → List Nat
  | .nm i => [i]
  | .tp l => Tg.ixss l
def Tg.ixss : List Tg → List Nat
  | [] => []
  | t :: ts => t.ixs ++ Tg.ixss ts
end
def tMG (G : GG) (g : Gh) (t : Tg) : TG := fun v σ H Q => ∃ F ρ x ρ', Good G g F ρ σ H ∧ Rep G F v x ∧ t.put x ρ = some ρ' ∧ ∀ σ', Good G g F ρ' σ' H → (∀ vs, (∀ i ∈ t.ixs, i ∈ vs) → wipe σ' vs = wipe σ vs) → Q σ' H
def tMGs (G : GG) (g : Gh) (ts : List Tg) : TGs := fun vs σ H Q => ∃ F ρ xs ρ', Good G g F ρ σ H ∧ RepA G F vs xs ∧ Tg.puts ts xs ρ = some ρ' ∧ ∀ σ', Good G g F ρ' σ' H → (∀ vs, (∀ i ∈ Tg.ixss ts, i ∈ vs) → wipe σ' vs = wipe σ vs) → Q σ' H
abbrev MG (X : Cx) (G : GG) (g : Gh) (e : Expr) (t : Tg) : Prop := PG X e (tMG G g t)
abbrev MGs (X : Cx) (G : GG) (g : Gh) (es : List Expr) (ts : List Tg) : Prop := PGs X es (tMGs G g ts)
theorem pg_imp {e : Expr} {t t' : TG} (h : PG X e t) (i : ∀ v σ H Q, t' v σ H Q → t v σ H Q) : PG X e t' := ⟨fun pins s σ H v u Q I r w => h.run pins s σ H v u Q I r (i v σ H Q w)⟩
theorem pgs_imp {es : List Expr} {t t' : TGs} (h : PGs X es t) (i : ∀ v σ H Q, t' v σ H Q → t v σ H Q) : PGs X es t' := ⟨fun pins s σ H v u Q I r w => h.run pins s σ H v u Q I r (i v σ H Q w)⟩
theorem wipe_set {σ : L2.St} {i : Nat} {o : Option V} : ∀ {vs : List Nat}, i ∈ vs → wipe (σ.set i o) vs = wipe σ vs
  | v :: vs, h => by
    show (wipe (σ.set i o) vs).set v none = (wipe σ vs).set v none
    by_cases z : i ∈ vs
    · rw [wipe_set z]
    · have e : v = i := by
        rcases List.mem_cons.mp h with e | e
        · exact e.symm
        · exact absurd e z
      subst e
      have c : ∀ (ws : List Nat), v ∉ ws → wipe (σ.set v o) ws = (wipe σ ws).set v o := by
        intro ws
        induction ws with
        | nil => intro _; rfl
        | cons u us ih =>
          intro hu
          show (wipe (σ.set v o) us).set u none = ((wipe σ us).set u none).set v o
          rw [ih fun m => hu (List.mem_cons_of_mem _ m), List.set_comm _ _ (fun e => hu (by rw [e]; exact List.mem_cons_self))]
      rw [c vs z, List.set_set]
theorem mg_name {i : Nat} {x : Str} (hN : X.N.Nodup) (hi : X.N[i]? = some x) (hx : Loc X.env.scope x) (hf : X.fn x = true ∨ X.env.scope.names.lookup x = some .local := by first | exact .inl rfl | exact .inr rfl | assumption) : MG X G g (.Name x pos) (.nm i) :=
  pg_imp (pg_name hN hi hx hf) fun v σ H Q ⟨F, ρ, x, ρ', I, r, e, k⟩ => k _ (I.putD r e) fun vs h => wipe_set (h i (by simp [Tg.ixs]))
theorem mgs_nil : MGs X G g [] [] := pgs_imp pgs_nil fun v σ H Q ⟨F, ρ, xs, ρ', I, r, e, k⟩ => by
  cases r with
  | nil =>
    unfold Tg.puts at e
    cases e
    exact ⟨rfl, k σ I fun _ _ => rfl⟩
  | cons _ _ => unfold Tg.puts at e; cases e
theorem mgs_cons {e : Expr} {es : List Expr} {t : Tg} {ts : List Tg} (h1 : MG X G g e t) (h2 : MGs X G g es ts) (hs : (assignEach (e :: es) X.env).map (·.2) = assign e X.env :: (assignEach es X.env).map (·.2) := by rfl) : MGs X G g (e :: es) (t :: ts) :=
  pgs_imp (pgs_cons h1 h2 hs) fun v σ H Q ⟨F, ρ, xs, ρ', I, r, e, k⟩ => by
    cases r with
    | nil => unfold Tg.puts at e; cases e
    | @cons v vs x xs rx rxs =>
      unfold Tg.puts at e
      cases q : t.put x ρ with
      | none => rw [q] at e; cases e
      | some ρ1 =>
        rw [q] at e
        have e : Tg.puts ts xs ρ1 = some ρ' := e
        exact ⟨_, _, rfl, F, ρ, x, ρ1, I, rx, q, fun σ1 I1 w1 => ⟨F, ρ1, xs, ρ', I1, rxs, e, fun σ2 I2 w2 => k σ2 I2 fun vs h =>
          (w2 vs fun i hi => h i (by unfold Tg.ixss; exact List.mem_append_right _ hi)).trans (w1 vs fun i hi => h i (by unfold Tg.ixss; exact List.mem_append_left _ hi))⟩⟩
theorem mg_tup {es : List Expr} {k : Nat} {ts : List Tg} (hK : X.K = G.K) (hc : X.calm = true) (h : MGs X G g es ts) (hn : (assignEach es X.env).length = ts.length := by rfl) (hst : (assignEach es X.env).findIdx? (·.1) = none := by rfl) : MG X G g (.Tuple es k pos) (.tp ts) := by
  refine ⟨fun pins s σ H v u Q I r hw => ?_⟩
  obtain ⟨F, ρ, x, ρ', J, rx, e, q⟩ := hw
  cases x with
  | tup xs =>
    cases rx with
    | tup hq ra =>
      unfold Tg.put at e
      split at e
      · rename_i hl
        exact (pg_tup hc h hn hst).run pins s σ H _ u Q I r ⟨_, _, rfl, by rw [hK]; exact sqT_same J.fh hq, ra.length.trans hl, F, ρ, xs, ρ', J, ra, e, q⟩
      · cases e
  | lst xs =>
    cases rx with
    | lst hq ra =>
      unfold Tg.put at e
      split at e
      · rename_i hl
        exact (pg_lst hc h hn hst).run pins s σ H _ u Q I r ⟨_, _, rfl, by rw [hK]; exact .of (J.fh _ _ hq), ra.length.trans hl, F, ρ, xs, ρ', J, ra, e, q⟩
      · cases e
  | _ => unfold Tg.put at e; cases e
/-- target = value, the value as data -/
def sAsg (t : Tg) (f : Ex) : Sm := fun ρ => Out.of (mForce f ρ) fun x ρ1 => nxO (t.put x ρ1)
theorem ms_asg {tg e : Expr} {f : Ex} {t : Tg} (h : ME X G g W e f) (hg : MG X G g tg t) (hs : swapsWithSole [tg] e pos.line X.env = pure false := by rfl) (hw : swappedStores [tg] e X.env = pure none := by rfl)
    (h1 : (assignEach [tg] X.env).map (·.2) = [assign tg X.env] := by rfl) : MS X G g W (.Assign [tg] e pos) (sAsg t f) := ps_imp (ps_asg (me_force h) hg hs hw h1) fun D σ H ⟨F, ρ, I, k⟩ => by
  refine ⟨F, ρ, I, (PostS.of k).imp fun F1 H1 ρ1 x s1 I1 k1 v r => ?_⟩
  cases q : t.put x ρ1 with
  | none => rw [q] at k1; exact k1.elim
  | some ρ2 =>
    rw [q] at k1
    exact ⟨F1, ρ1, x, ρ2, I1, r, q, fun σ' I' _ => k1 F1 H1 σ' (.refl _) I'⟩

/-! ### loops -/
def loopM (body : D → List S → Out) : List D → List S → Out
  | [], ρ => .nx ρ
  | x :: r, ρ => match body x ρ with
    | .nx ρ1 => loopM body r ρ1
    | .ct ρ1 => loopM body r ρ1
    | .bk ρ1 => .nx ρ1
    | o => o
def sFor (it : List S → R (List D)) (t : Tg) (body : Sm) : Sm := fun ρ => Out.of (it ρ) fun items ρ1 => loopM (fun x ρ => match t.put x ρ with
  | some ρ2 => body ρ2
  | none => .bad) items ρ1
/-- the iterator J walks these data -/
structure ItD (G : GG) (J : It) (items : List D) (F H : Hp) : Prop where
  go : ∀ F1 H1 i, Same F F1 → Same F1 H1 → i < items.length → J.go i H1
  yld : ∀ F1 H1 i v H2, Same F F1 → Same F1 H1 → J.yld i H1 v H2 → i < items.length → ∃ F2 x, Step F1 H1 F2 H2 ∧ items[i]? = some x ∧ Rep G F2 v x
  stop : ∀ F1 H1 i, Same F F1 → Same F1 H1 → items.length ≤ i → J.stop i H1
def tMI (G : GG) (g : Gh) (W : WX) (f : List S → R (List D)) : TI := fun σ H Rr => ∃ F ρ, Good G g F ρ σ H ∧ Post G g W F σ (f ρ) fun F' H' _ items => ∀ J, ItD G J items F' H' → Rr J H'
abbrev MI (X : Cx) (G : GG) (g : Gh) (W : WX) (tg iter : Expr) (f : List S → R (List D)) : Prop := PI X tg iter (tMI G g W f)
theorem ms_for {tg iter : Expr} {body : List Stmt} {f : List S → R (List D)} {t : Tg} {m : Sm} (hp : PassesOwn (model X.prog X.w) X.A X.env X.xe) (hc : X.calm = true) (hi : MI X G g W tg iter f) (hg : MG X G g tg t) (hb : MSs X G g W body m)
    (hs : ∀ x, foldedSetIterable iter X.env x = pure x := by intro _; rfl) : MS X G g W (.For tg iter body [] pos) (sFor f t m) := ps_imp (ps_for hp hc hi hg hb hs) fun D σ H ⟨F, ρ, I, k⟩ => by
  refine ⟨F, ρ, I, (PostS.of k).imp fun F0 H0 ρ0 items s0 I0 k0 J hJ => ?_⟩
  refine ⟨fun i m' σ1 H1 => m' = items.length - i ∧ i ≤ items.length ∧ ∃ F1 ρ1, Same F0 F1 ∧ Good G g F1 ρ1 σ1 H1 ∧ PostS G g W F1 (loopM (fun x ρ => match t.put x ρ with
    | some ρ2 => m ρ2
    | none => .bad) (items.drop i) ρ1) D, ⟨items.length, by simp, Nat.zero_le _, F0, ρ0, .refl _, I0, k0⟩, ?_⟩
  rintro i m' σ1 H1 ⟨rfl, hi, F1, ρ1, s1, I1, k1⟩
  by_cases hlt : i < items.length
  · refine .inr ⟨hJ.go F1 H1 i s1 I1.fh hlt, fun σ' H' => ∃ F2 ρ2, Same F0 F2 ∧ Good G g F2 ρ2 σ' H' ∧ PostS G g W F2 (loopM (fun x ρ => match t.put x ρ with
      | some ρ2 => m ρ2
      | none => .bad) (items.drop (i + 1)) ρ2) D, fun σ' H' ⟨F2, ρ2, s2, I2, k2⟩ => ⟨items.length - (i + 1), by omega, rfl, hlt, F2, ρ2, s2, I2, k2⟩, fun v H2 y => ?_⟩
    obtain ⟨F2, x, st, hx, r⟩ := hJ.yld F1 H1 i v H2 s1 I1.fh y hlt
    have I2 := I1.step st
    have k2 := k1.mono st.ff
    rw [List.drop_eq_getElem_cons hlt] at k2
    have ex : items[i] = x := by
      rw [List.getElem?_eq_getElem hlt] at hx
      exact Option.some.inj hx
    rw [ex] at k2
    unfold loopM at k2
    cases q : t.put x ρ1 with
    | none => rw [q] at k2; exact k2.elim
    | some ρ2 =>
      rw [q] at k2
      dsimp only at k2
      refine ⟨F2, ρ1, x, ρ2, I2, r, q, fun σ' I3 _ => ⟨F2, ρ2, I3, ?_⟩⟩
      cases q2 : m ρ2 with
      | bad => rw [q2] at k2; exact k2
      | ex e ρ3 => rw [q2] at k2; exact k2
      | rt rv ρ3 => rw [q2] at k2; exact k2
      | bk ρ3 =>
        rw [q2] at k2
        exact fun F4 H4 σ4 s4 I4 => k2 F4 H4 σ4 s4 I4
      | nx ρ3 =>
        rw [q2] at k2
        exact fun F4 H4 σ4 s4 I4 => ⟨F4, ρ3, (s1.trans st.ff).trans s4, I4, PostS.mono k2 s4⟩
      | ct ρ3 =>
        rw [q2] at k2
        exact fun F4 H4 σ4 s4 I4 => ⟨F4, ρ3, (s1.trans st.ff).trans s4, I4, PostS.mono k2 s4⟩
  · have e : items.drop i = [] := List.drop_eq_nil_of_le (by omega)
    rw [e] at k1
    exact .inl ⟨hJ.stop F1 H1 i s1 I1.fh (by omega), k1 F1 H1 σ1 (.refl _) I1⟩
def whileM (t : List S → R Bool) (body : Sm) : Nat → Sm
  | 0, _ => .bad
  | n + 1, ρ => Out.of (t ρ) fun c ρ1 => if c = true then (match body ρ1 with
    | .nx ρ2 => whileM t body n ρ2
    | .ct ρ2 => whileM t body n ρ2
    | .bk ρ2 => .nx ρ2
    | o => o) else .nx ρ1
theorem ms_while {c : Expr} {body : List Stmt} {t : List S → R Bool} {m : Sm} (n : Nat) (hp : PassesOwn (model X.prog X.w) X.A X.env X.xe) (hc : MT X G g W c t) (hb : MSs X G g W body m) : MS X G g W (.While c body [] pos) (whileM t m n) := ps_imp (ps_while hp hc hb) fun D σ H ⟨F, ρ, I, k⟩ => by
  refine ⟨fun i σ1 H1 => ∃ F1 ρ1, Same F F1 ∧ Good G g F1 ρ1 σ1 H1 ∧ PostS G g W F1 (whileM t m i ρ1) D, ⟨n, F, ρ, .refl _, I, k⟩, ?_⟩
  rintro i σ1 H1 ⟨F1, ρ1, s1, I1, k1⟩
  cases i with
  | zero => exact k1.elim
  | succ i =>
    unfold whileM at k1
    refine ⟨F1, ρ1, I1, (PostS.of k1).imp fun F2 H2 ρ2 b s2 I2 k2 => ?_⟩
    cases b with
    | false =>
      rw [if_neg Bool.false_ne_true] at k2 ⊢
      exact k2 F2 H2 σ1 (.refl _) I2
    | true =>
      rw [if_pos rfl] at k2 ⊢
      refine ⟨fun σ' H' => ∃ F3 ρ3, Same F F3 ∧ Good G g F3 ρ3 σ' H' ∧ PostS G g W F3 (whileM t m i ρ3) D, fun σ' H' h => ⟨i, Nat.lt_succ_self _, h⟩, F2, ρ2, I2, ?_⟩
      cases q2 : m ρ2 with
      | bad => rw [q2] at k2; exact k2
      | ex e ρ3 => rw [q2] at k2; exact k2
      | rt rv ρ3 => rw [q2] at k2; exact k2
      | bk ρ3 =>
        rw [q2] at k2
        exact fun F4 H4 σ4 s4 I4 => k2 F4 H4 σ4 s4 I4
      | nx ρ3 =>
        rw [q2] at k2
        exact fun F4 H4 σ4 s4 I4 => ⟨F4, ρ3, (s1.trans s2).trans s4, I4, PostS.mono k2 s4⟩
      | ct ρ3 =>
        rw [q2] at k2
        exact fun F4 H4 σ4 s4 I4 => ⟨F4, ρ3, (s1.trans s2).trans s4, I4, PostS.mono k2 s4⟩
/-- x op= e -/
def sAug (i : Nat) (od : D → D → Option RV) (f : Ex) : Sm := fun ρ => match ρ[i]? with
  | some (.d x) => Out.of (mHold f ρ) fun h ρ1 => (match peekH ρ1 h with
    | some y => (match od x y with
      | some rv => nxO (putRV i rv ρ1)
      | none => .bad)
    | none => .bad)
  | _ => .bad
theorem ms_aug {i : Nat} {x : Str} {e : Expr} {op : Operator} {od : D → D → Option RV} {f : Ex} {pos' : Pos} (hN : X.N.Nodup) (hi : X.N[i]? = some x) (hx : Loc X.env.scope x) (h : ME X G g W e f) (ho : OpR X (inplaceOp op) (rD G od))
    (hf : X.fn x = true ∨ X.env.scope.names.lookup x = some .local := by first | exact .inl rfl | exact .inr rfl | assumption) : MS X G g W (.AugAssign (.Name x pos') op e pos) (sAug i od f) :=
  ps_imp (ps_aug (ti := rD G od) hN hi hx (me_hold h) ho hf) fun D σ H ⟨F, ρ, I, k⟩ => by
    unfold sAug at k
    cases q : ρ[i]? with
    | none => rw [q] at k; exact k.elim
    | some s =>
      rw [q] at k
      cases s with
      | d x0 =>
        obtain ⟨v, hv, r⟩ := I.dat i x0 q
        refine ⟨v, hv, F, ρ, I, (PostS.of k).imp fun F1 H1 ρ1 hh s1 I1 k1 u ru => ?_⟩
        cases q1 : peekH ρ1 hh with
        | none => rw [q1] at k1; exact k1.elim
        | some y =>
          rw [q1] at k1
          dsimp only at k1
          cases q2 : od x0 y with
          | none => rw [q2] at k1; exact k1.elim
          | some rv =>
            rw [q2] at k1
            dsimp only at k1
            refine ⟨F1, x0, y, rv, I1.fh, .inl (r.mono s1), peekH_rep I1 ru q1, q2, fun F2 H2 w st ro => ?_⟩
            have I2 := I1.step st
            cases q3 : putRV i rv ρ1 with
            | none => rw [q3] at k1; exact k1.elim
            | some ρ2 =>
              rw [q3] at k1
              obtain ⟨F3, s3, I3⟩ := I2.putRV (ro.toV I1 st) q3
              exact k1 F3 H2 _ (st.ff.trans s3) I3
      | un => exact k.elim
      | o _ => exact k.elim
      | p _ => exact k.elim
end
end MM
set_option Elab.async false
set_option maxRecDepth 100000
set_option maxHeartbeats 2000000
namespace MM
open PySem PySem.Spec PyProof.Rows L2

/-! ### a def's promise by its mirror -/
/-- where the objects lie that a caller hands over -/
def PM (ss : List S) (vs : List V) (i : Nat) : Option Addr := match ss[i]?, vs[i]? with
  | some (.p _), some (.ref a) => some a
  | _, _ => none
structure ArgsOk (G : GG) (F H : Hp) (vs : List V) (ss : List S) : Prop where
  len : vs.length = ss.length
  dat : ∀ (i : Nat) (x : D), ss[i]? = some (S.d x) → ∃ v, vs[i]? = some v ∧ Rep G F v x
  prm : ∀ (i : Nat) (x : D), ss[i]? = some (S.p x) → ∃ a : Addr, vs[i]? = some (V.ref a) ∧ F a = none ∧ OwnAt G F H a x
  obj : ∀ (i : Nat) (x : D), ss[i]? ≠ some (S.o x)
  apart : ∀ (i j : Nat) (x y : D) (a : Addr), i ≠ j → ss[i]? = some (S.p x) → ss[j]? = some (S.p y) → vs[i]? = some (V.ref a) → vs[j]? ≠ some (V.ref a)
  nt : ∀ a ps, F a ≠ some (.tbl ps)
  tabs : LamX.Tabs G.T H
structure CallPost (G : GG) (F H : Hp) (ss : List S) (vs : List V) (ρ : List S) (F' H' : Hp) : Prop where
  ff : Same F F'
  fh : Same F' H'
  keep : ∀ a o, H a = some o → (∀ i, PM ss vs i ≠ some a) → (∀ ps, o ≠ .tbl ps) → H' a = some o
  fresh : ∀ a, F' a ≠ none → F a ≠ none ∨ Nw H a
  nt : ∀ a ps, F' a ≠ some (.tbl ps)
  tabs : LamX.Tabs G.T H'
  prm : ∀ (i : Nat) (x : D), ss[i]? = some (S.p x) → ∃ (a : Addr) (y : D), vs[i]? = some (V.ref a) ∧ ρ[i]? = some (S.p y) ∧ F' a = none ∧ OwnAt G F' H' a y
def spM (G : GG) (m : Fn) (n : Nat) : Sp := fun vs H Q E => vs.length = n ∧ ∃ F ss, Same F H ∧ ArgsOk G F H vs ss ∧ match m ss with
  | .rt rv ρ => ∀ F' H' v, CallPost G F H ss vs ρ F' H' → RepO G H F' H' v rv → Q v H'
  | .ex e ρ => ∀ F' H' cls d, CallPost G F H ss vs ρ F' H' → RepX G F' cls d e → E cls d H'
  | .bad => False
/-- the result of a body: an own object goes to the caller -/
def retv (rv : RV) (ρ : List S) : Option RV := match rv with
  | .d x => some (.d x)
  | .f x => some (.f x)
  | .r i => match ρ[i]? with
    | some (.d x) => some (.d x)
    | some (.o x) => some (.f x)
    | _ => none
def fnM (N : Nat) (body : Sm) : Fn := fun ss => match body (ss ++ List.replicate (N - ss.length) .un) with
  | .nx ρ => .rt (.d .non) ρ
  | .rt rv ρ => (match retv rv ρ with
    | some rv' => .rt rv' ρ
    | none => .bad)
  | .ex e ρ => .ex e ρ
  | _ => .bad
section
variable {G : GG} {F H : Hp} {vs : List V} {ss : List S}
theorem start_get {N : List Str} {i : Nat} {v : V} (h : vs[i]? = some v) : (L2.start N vs)[i]? = some (some v) := by
  have hi : i < vs.length := (List.getElem?_eq_some_iff.mp h).1
  unfold L2.start
  rw [List.getElem?_append_left (by simpa using hi), List.getElem?_map, h]
  rfl
theorem ss_get {n : Nat} {i : Nat} {s : S} (h : (ss ++ List.replicate n S.un)[i]? = some s) : ss[i]? = some s ∨ s = .un := by
  by_cases hi : i < ss.length
  · rw [List.getElem?_append_left hi] at h
    exact .inl h
  · rw [List.getElem?_append_right (by omega), List.getElem?_replicate] at h
    split at h
    · exact .inr (Option.some.inj h).symm
    · cases h
theorem good_start {N : List Str} (hN : vs.length ≤ N.length) (s : Same F H) (A : ArgsOk G F H vs ss) : Good G ⟨H, F, PM ss vs, []⟩ F (ss ++ List.replicate (N.length - ss.length) .un) (L2.start N vs) H where
  len := by
    unfold L2.start
    simp only [List.length_append, List.length_map, List.length_replicate]
    have := A.len
    omega
  fh := s
  f0 := .refl _
  keep := fun a o h _ _ => h
  fresh := fun a h => .inl h
  nt := A.nt
  tabs := A.tabs
  dat := fun i x h => by
    rcases ss_get h with h | h
    · obtain ⟨v, h1, h2⟩ := A.dat i x h
      exact ⟨v, start_get h1, h2⟩
    · cases h
  obj := fun i x h => by
    rcases ss_get h with h | h
    · exact absurd h (A.obj i x)
    · cases h
  prm := fun i x h => by
    rcases ss_get h with h | h
    · obtain ⟨a, h1, h2, h3⟩ := A.prm i x h
      refine ⟨a, start_get h1, h2, h3, ?_⟩
      show PM ss vs i = some a
      unfold PM
      rw [h, h1]
    · cases h
  par := fun i a h => by
    have h : PM ss vs i = some a := h
    unfold PM at h
    cases q : ss[i]? with
    | none => rw [q] at h; cases h
    | some t =>
      rw [q] at h
      cases t with
      | p x =>
        obtain ⟨b, h1, h2, h3⟩ := A.prm i x q
        rw [h1] at h
        cases h
        refine ⟨⟨x, ?_⟩, h3.there⟩
        rw [List.getElem?_append_left (List.getElem?_eq_some_iff.mp q).1]
        exact q
      | _ => cases h
  apart := fun i j s t a hij h1 h2 h3 h4 h5 h6 => by
    rcases ss_get h1 with h1 | h1
    · rcases ss_get h2 with h2 | h2
      · cases s with
        | p x =>
          cases t with
          | p y =>
            obtain ⟨b, e1, _⟩ := A.prm i x h1
            obtain ⟨c, e2, _⟩ := A.prm j y h2
            rw [start_get e1] at h5
            rw [start_get e2] at h6
            cases h5
            cases h6
            exact A.apart i j x y _ hij h1 h2 e1 e2
          | o y => exact A.obj j y h2
          | d y => exact h4 rfl
          | un => exact h4 rfl
        | o x => exact A.obj i x h1
        | d x => exact h3 rfl
        | un => exact h3 rfl
      · rw [h2] at h4
        exact h4 rfl
    · rw [h1] at h3
      exact h3 rfl
  tmp := fun q hq => absurd hq (by simp)
theorem good_end {F' H' : Hp} {ρ : List S} {σ : L2.St} (A : ArgsOk G F H vs ss) (I : Good G ⟨H, F, PM ss vs, []⟩ F' ρ σ H') : CallPost G F H ss vs ρ F' H' where
  ff := I.f0
  fh := I.fh
  keep := I.keep
  nt := I.nt
  tabs := I.tabs
  fresh := I.fresh
  prm := fun i x h => by
    obtain ⟨a, h1, h2, h3⟩ := A.prm i x h
    have hP : PM ss vs i = some a := by unfold PM; rw [h, h1]
    obtain ⟨⟨y, hy⟩, _⟩ := I.par i a hP
    obtain ⟨b, e1, e2, e3, e4⟩ := I.prm i y hy
    have e4 : PM ss vs i = some b := e4
    rw [hP] at e4
    cases e4
    exact ⟨a, y, h1, hy, e2, e3⟩
end
/-- THE RULE: a def keeps the promise of its mirror -/
abbrev CD (P : Program) (w : World) (K : PySem.W.Frag) (mg : Str → Option Value) (base : Heap) (N : List Str) (qual : Str) (scope : Scope) (f : Addr) (cdv : Value) (A : Around) (outer : List Env) (s : Shared) (H : Hp) (E : XK) : Cx := cxOf (L2.CX P w) P w K mg base N qual scope f cdv A outer s H E
theorem fnM_ok {P : Program} {w : World} {K : PySem.W.Frag} {mg : Str → Option Value} {base : Heap} {G : GG} {x qual : Str} {params : Arguments} {body : List Stmt} {scope : Scope} {dvs : List V} {kws : List (Str × V)} {f : Addr} {fd : FuncData} {N ps : List Str} {k : Nat} (b : Sm)
    (F : FunD K x qual params body scope dvs kws f fd) (Sc : FnScope N ps scope)
    (hbody : ∀ (cdv : Value) (A : Around) (outer : List Env) (s : Shared) (H : Hp) (E : XK), Room k (CD P w K mg base N qual scope f cdv A outer s H E).A → (CD P w K mg base N qual scope f cdv A outer s H E).A.units + 64 < cLine → PassesOwn (model P w) (CD P w K mg base N qual scope f cdv A outer s H E).A (CD P w K mg base N qual scope f cdv A outer s H E).env (CD P w K mg base N qual scope f cdv A outer s H E).xe →
      ∀ (g : Gh) (W : WX), Takes (CD P w K mg base N qual scope f cdv A outer s H E) W → MSs (CD P w K mg base N qual scope f cdv A outer s H E) G g W body b) :
    FnOk P w K mg base (L2.CX P w) (k + 1) f fd ps (spM G (fnM N.length b) ps.length) := by
  refine F.ok Sc (fun vs H Q E h => h.1) (fun cdv A outer s H vs Q E hr h => ?_)
  obtain ⟨hl, Fz, ss, sF, AO, h⟩ := h
  have hb := hbody cdv A outer s H E hr (by have := hr.un; show (A.deeper _).units + 64 < cLine; omega) (passes_of rfl) ⟨H, Fz, PM ss vs, []⟩ (fun cls d _ H => E cls d H) (takes_of rfl rfl rfl rfl)
  refine ⟨_, hb, Fz, ss ++ List.replicate (N.length - ss.length) .un, good_start ?_ sF AO, ?_⟩
  · rw [hl]
    have e := congrArg List.length Sc.pre
    rw [List.length_take] at e
    omega
  · unfold fnM at h
    cases q : b (ss ++ List.replicate (N.length - ss.length) .un) with
    | bad => rw [q] at h; exact h
    | bk ρ => rw [q] at h; exact h.elim
    | ct ρ => rw [q] at h; exact h.elim
    | nx ρ =>
      rw [q] at h
      exact fun F1 H1 σ1 s1 I1 => h F1 H1 .non (good_end AO I1) .non
    | ex e ρ =>
      rw [q] at h
      exact fun F1 H1 σ1 cls d s1 I1 rx => h F1 H1 cls d (good_end AO I1) rx
    | rt rv ρ =>
      rw [q] at h
      dsimp only at h
      intro F1 H1 σ1 v s1 I1 r
      cases rv with
      | d x => exact h F1 H1 v (good_end AO I1) r
      | f x =>
        obtain ⟨a, rfl, n, h0, ow, _⟩ := r
        exact h F1 H1 _ (good_end AO I1) ⟨a, rfl, h0, n, ow⟩
      | r i =>
        have r : σ1[i]? = some (some v) := r
        unfold retv at h
        dsimp only at h
        cases q2 : ρ[i]? with
        | none => rw [q2] at h; exact h.elim
        | some t =>
          rw [q2] at h
          cases t with
          | un => exact h.elim
          | p y => exact h.elim
          | d y =>
            obtain ⟨u, h1, h2⟩ := I1.dat i y q2
            rw [r] at h1
            cases h1
            exact h F1 H1 _ (good_end AO I1) h2
          | o y =>
            obtain ⟨a, h1, h2, h3, h4⟩ := I1.obj i y q2
            rw [r] at h1
            cases h1
            exact h F1 H1 _ (good_end AO I1) ⟨a, rfl, h4, h2, h3⟩

/-! ### a call -/
/-- a def that may be called by its name -/
structure Cal (P : Program) (w : World) (K : PySem.W.Frag) (mg : Str → Option Value) (base : Heap) (G : GG) (k : Nat) (x : Str) (n : Nat) (m : Fn) : Prop where
  ex : ∃ (f : Addr) (fd : FuncData) (ps : List Str), FnOk P w K mg base (L2.CX P w) k f fd ps (spM G m ps.length) ∧ mg x = some (.ref f) ∧ PySem.W.keepIn K (.ref f) = true ∧ Binds K fd ps [] ∧ n = ps.length
/-- what a waiting value is to a callee -/
def argS (ρ : List S) : HV → S
  | .d x => .d x
  | .r i => match ρ[i]? with
    | some (.d x) => .d x
    | some (.o x) => .p x
    | some (.p x) => .p x
    | _ => .un
def ownIx (ρ : List S) : HV → Option Nat
  | .d _ => none
  | .r i => match ρ[i]? with
    | some (.o _) => some i
    | some (.p _) => some i
    | _ => none
def argOk (ρ : List S) : HV → Bool
  | .d _ => true
  | .r i => match ρ[i]? with
    | some (.d _) => true
    | some (.o _) => true
    | some (.p _) => true
    | _ => false
def argsOk (ρ : List S) (hs : List HV) : Bool := hs.all (argOk ρ) && decide (hs.filterMap (ownIx ρ)).Nodup
/-- what the callee left of the slot's object -/
def newOf : List HV → List S → Nat → Option D
  | h :: hs, s :: ss, j => match h, s with
    | .r i, .p y => if i = j then some y else newOf hs ss j
    | _, _ => newOf hs ss j
  | _, _, _ => none
def backS (nw : Nat → Option D) : Nat → List S → List S
  | _, [] => []
  | j, s :: ss => (match s with
    | .o x => .o ((nw j).getD x)
    | .p x => .p ((nw j).getD x)
    | s => s) :: backS nw (j + 1) ss
def mCall (n : Nat) (m : Fn) (r : List S → R (List HV)) : Ex := fun ρ => (r ρ).bind fun hs ρ1 => if (decide (hs.length = n) && argsOk ρ1 hs) = true then (match m (hs.map (argS ρ1)) with
  | .rt rv ρf => .ok rv (backS (newOf hs ρf) 0 ρ1)
  | .ex e ρf => .ex e (backS (newOf hs ρf) 0 ρ1)
  | .bad => .bad) else .bad
theorem backS_get {nw : Nat → Option D} : ∀ {ρ : List S} {k j : Nat}, (backS nw k ρ)[j]? = (ρ[j]?).map fun s => match s with
    | .o x => .o ((nw (k + j)).getD x)
    | .p x => .p ((nw (k + j)).getD x)
    | s => s
  | [], _, _ => by simp [backS]
  | s :: ss, k, 0 => by simp [backS]
  | s :: ss, k, j + 1 => by
    unfold backS
    rw [List.getElem?_cons_succ, List.getElem?_cons_succ, backS_get (ρ := ss)]
    have e : k + 1 + j = k + (j + 1) := by omega
    rw [e]
theorem backS_length {nw : Nat → Option D} : ∀ {ρ : List S} {k : Nat}, (backS nw k ρ).length = ρ.length
  | [], _ => rfl
  | s :: ss, k => by
    unfold backS
    rw [List.length_cons, List.length_cons, backS_length]
theorem newOf_some : ∀ {hs : List HV} {ρf : List S} {j : Nat} {y : D}, newOf hs ρf j = some y → ∃ k : Nat, hs[k]? = some (HV.r j) ∧ ρf[k]? = some (S.p y)
  | [], _, _, _, h => by cases h
  | h :: hs, [], _, _, e => by cases e
  | h :: hs, s :: ss, j, y, e => by
    have step : newOf hs ss j = some y → ∃ k : Nat, (h :: hs)[k]? = some (HV.r j) ∧ (s :: ss)[k]? = some (S.p y) := fun e => by
      obtain ⟨k, h1, h2⟩ := newOf_some e
      exact ⟨k + 1, h1, h2⟩
    unfold newOf at e
    cases h with
    | d x => exact step e
    | r i =>
      cases s with
      | p z =>
        dsimp only at e
        split at e
        · rename_i hij
          subst hij
          cases e
          exact ⟨0, rfl, rfl⟩
        · exact step e
      | un => exact step e
      | d z => exact step e
      | o z => exact step e
theorem newOf_at : ∀ {hs : List HV} {ρf : List S} {k j : Nat} {y : D}, hs[k]? = some (.r j) → ρf[k]? = some (.p y) → ∃ z, newOf hs ρf j = some z
  | [], _, _, _, _, h, _ => by simp at h
  | h :: hs, [], _, _, _, _, e => by simp at e
  | h :: hs, s :: ss, k, j, y, e1, e2 => by
    unfold newOf
    cases k with
    | zero =>
      simp at e1 e2
      subst e1; subst e2
      exact ⟨y, if_pos rfl⟩
    | succ k =>
      obtain ⟨z, ih⟩ := newOf_at (hs := hs) (ρf := ss) (by simpa using e1) (by simpa using e2)
      cases h with
      | d x => exact ⟨z, ih⟩
      | r i =>
        cases s with
        | p t =>
          dsimp only
          split
          · exact ⟨t, rfl⟩
          · exact ⟨z, ih⟩
        | un => exact ⟨z, ih⟩
        | d t => exact ⟨z, ih⟩
        | o t => exact ⟨z, ih⟩
section
variable {G : GG} {g : Gh} {F H : Hp} {ρ : List S} {σ : L2.St}
theorem RepHs.len : ∀ {vs : List V} {hs : List HV}, RepHs G F σ vs hs → vs.length = hs.length
  | _, _, .nil => rfl
  | _, _, .cons _ r => congrArg Nat.succ r.len
theorem RepHs.get : ∀ {vs : List V} {hs : List HV} {i : Nat} {h : HV}, RepHs G F σ vs hs → hs[i]? = some h → ∃ v, vs[i]? = some v ∧ RepH G F σ v h
  | _, _, _, _, .nil, e => by simp at e
  | _, _, 0, _, .cons (v := v) a _, e => by
    simp at e; subst e
    exact ⟨v, rfl, a⟩
  | _, _, i + 1, _, .cons _ r, e => by
    obtain ⟨v, h1, h2⟩ := r.get (i := i) (by simpa using e)
    exact ⟨v, by simpa using h1, h2⟩
theorem nodup_fm {α β : Type} {f : α → Option β} : ∀ {l : List α} {i j : Nat} {x y : α} {b : β}, (l.filterMap f).Nodup → l[i]? = some x → l[j]? = some y → f x = some b → f y = some b → i = j
  | [], _, _, _, _, _, _, h, _, _, _ => by simp at h
  | a :: l, i, j, x, y, b, nd, h1, h2, h3, h4 => by
    rw [List.filterMap_cons] at nd
    cases i with
    | zero =>
      simp at h1; subst h1
      cases j with
      | zero => rfl
      | succ j =>
        rw [h3] at nd
        have := (List.nodup_cons.mp nd).1
        exact absurd (List.mem_filterMap.mpr ⟨y, List.mem_of_getElem? (by simpa using h2), h4⟩) this
    | succ i =>
      cases j with
      | zero =>
        simp at h2; subst h2
        rw [h4] at nd
        have := (List.nodup_cons.mp nd).1
        exact absurd (List.mem_filterMap.mpr ⟨x, List.mem_of_getElem? (by simpa using h1), h3⟩) this
      | succ j =>
        have nd' : (l.filterMap f).Nodup := by
          cases q : f a with
          | none => rw [q] at nd; exact nd
          | some c => rw [q] at nd; exact (List.nodup_cons.mp nd).2
        have h1' : l[i]? = some x := by simpa using h1
        have h2' : l[j]? = some y := by simpa using h2
        exact congrArg Nat.succ (nodup_fm nd' h1' h2' h3 h4)
theorem argS_p {h : HV} {x : D} (e : argS ρ h = .p x) : ∃ i s, h = .r i ∧ ρ[i]? = some s ∧ s.own = some x ∧ ownIx ρ h = some i := by
  cases h with
  | d y => cases e
  | r i =>
    unfold argS at e
    dsimp only at e
    cases q : ρ[i]? with
    | none => rw [q] at e; cases e
    | some s =>
      rw [q] at e
      cases s with
      | un => cases e
      | d y => cases e
      | o y =>
        cases e
        exact ⟨i, _, rfl, q, rfl, by unfold ownIx; dsimp only; rw [q]⟩
      | p y =>
        cases e
        exact ⟨i, _, rfl, q, rfl, by unfold ownIx; dsimp only; rw [q]⟩
theorem args_ok (I : Good G g F ρ σ H) {vs : List V} {hs : List HV} (r : RepHs G F σ vs hs) (ok : argsOk ρ hs = true) : ArgsOk G F H vs (hs.map (argS ρ)) := by
  obtain ⟨ok1, ok2⟩ := Bool.and_eq_true_iff.mp ok
  have nd : (hs.filterMap (ownIx ρ)).Nodup := of_decide_eq_true ok2
  have at_ : ∀ (i : Nat) (s : S), (hs.map (argS ρ))[i]? = some s → ∃ h v, hs[i]? = some h ∧ argS ρ h = s ∧ vs[i]? = some v ∧ RepH G F σ v h := fun i s e => by
    rw [List.getElem?_map] at e
    cases q : hs[i]? with
    | none => rw [q] at e; cases e
    | some h =>
      rw [q] at e
      obtain ⟨v, h1, h2⟩ := r.get q
      exact ⟨h, v, rfl, Option.some.inj e, h1, h2⟩
  refine ⟨by rw [List.length_map]; exact r.len, fun i x e => ?_, fun i x e => ?_, fun i x e => ?_, fun i j x y a hij e1 e2 e3 e4 => ?_, I.nt, I.tabs⟩
  · obtain ⟨h, v, q1, q2, q3, q4⟩ := at_ i _ e
    refine ⟨v, q3, ?_⟩
    cases h with
    | d y =>
      cases q2
      exact q4
    | r k =>
      have q4 : σ[k]? = some (some v) := q4
      unfold argS at q2
      dsimp only at q2
      cases z : ρ[k]? with
      | none => rw [z] at q2; cases q2
      | some s =>
        rw [z] at q2
        cases s with
        | un => cases q2
        | o y => cases q2
        | p y => cases q2
        | d y =>
          cases q2
          obtain ⟨u, z1, z2⟩ := I.dat k _ z
          rw [q4] at z1
          cases z1
          exact z2
  · obtain ⟨h, v, q1, q2, q3, q4⟩ := at_ i _ e
    obtain ⟨k, s, rfl, z1, z2, _⟩ := argS_p q2
    obtain ⟨a, w1, w2, w3⟩ := I.own z1 z2
    have q4 : σ[k]? = some (some v) := q4
    rw [w1] at q4
    cases q4
    exact ⟨a, q3, w2, w3⟩
  · obtain ⟨h, v, q1, q2, q3, q4⟩ := at_ i _ e
    cases h with
    | d y => cases q2
    | r k =>
      unfold argS at q2
      dsimp only at q2
      split at q2 <;> cases q2
  · obtain ⟨h, v, q1, q2, q3, q4⟩ := at_ i _ e1
    obtain ⟨h', v', q1', q2', q3', q4'⟩ := at_ j _ e2
    obtain ⟨k, s, rfl, z1, z2, z3⟩ := argS_p q2
    obtain ⟨k', s', rfl, z1', z2', z3'⟩ := argS_p q2'
    have kne : k ≠ k' := fun z => by
      subst z
      exact hij (nodup_fm nd q1 q1' z3 z3')
    rw [e3] at q3
    cases q3
    rw [e4] at q3'
    cases q3'
    exact I.apart k k' s s' a kne z1 z1' (by rw [z2]; simp) (by rw [z2']; simp) q4 q4'
/-- behind a call -/
theorem Good.call (I : Good G g F ρ σ H) {vs : List V} {hs : List HV} (r : RepHs G F σ vs hs) (ok : argsOk ρ hs = true) {ρf : List S} {F' H' : Hp} (cp : CallPost G F H (hs.map (argS ρ)) vs ρf F' H') :
    Good G g F' (backS (newOf hs ρf) 0 ρ) σ H' := by
  have AO := args_ok I r ok
  obtain ⟨ok1, ok2⟩ := Bool.and_eq_true_iff.mp ok
  have nd : (hs.filterMap (ownIx ρ)).Nodup := of_decide_eq_true ok2
  -- the objects that went
  have gone : ∀ a i, PM (hs.map (argS ρ)) vs i = some a → ∃ (k : Nat) (s : S), hs[i]? = some (.r k) ∧ ρ[k]? = some s ∧ s.own ≠ none ∧ σ[k]? = some (some (V.ref a)) := fun a i e => by
    unfold PM at e
    rw [List.getElem?_map] at e
    cases q : hs[i]? with
    | none => rw [q] at e; cases e
    | some h =>
      rw [q] at e
      dsimp only [Option.map] at e
      cases q2 : argS ρ h with
      | p x =>
        rw [q2] at e
        obtain ⟨v, h1, h2⟩ := r.get q
        rw [h1] at e
        obtain ⟨k, s, rfl, z1, z2, _⟩ := argS_p q2
        have h2 : σ[k]? = some (some v) := h2
        obtain ⟨b, w1, _⟩ := I.own z1 z2
        rw [w1] at h2
        cases h2
        cases e
        exact ⟨k, s, rfl, z1, by rw [z2]; simp, w1⟩
      | un => rw [q2] at e; cases e
      | d x => rw [q2] at e; cases e
      | o x => rw [q2] at e; cases e
  -- a slot's object behind the call
  have ownAt : ∀ (i : Nat) (s : S) (x : D), ρ[i]? = some s → s.own = some x → ∃ a, σ[i]? = some (some (V.ref a)) ∧ F' a = none ∧ OwnAt G F' H' a ((newOf hs ρf i).getD x) := fun i s x hi hx => by
    obtain ⟨a, w1, w2, w3⟩ := I.own hi hx
    obtain ⟨o, ho⟩ := w3.there
    cases q : newOf hs ρf i with
    | some y =>
      obtain ⟨k, q1, q2⟩ := newOf_some q
      have hS : (hs.map (argS ρ))[k]? = some (.p x) := by
        rw [List.getElem?_map, q1]
        show some (argS ρ (.r i)) = _
        unfold argS
        dsimp only
        rw [hi]
        cases s <;> first | (cases hx; rfl) | cases hx
      obtain ⟨b, y', e1, e2, e3, e4⟩ := cp.prm k x hS
      obtain ⟨v, h1, h2⟩ := r.get q1
      have h2 : σ[i]? = some (some v) := h2
      rw [w1] at h2
      cases h2
      rw [h1] at e1
      cases e1
      rw [q2] at e2
      cases e2
      exact ⟨a, w1, e3, e4⟩
    | none =>
      refine ⟨a, w1, ?_, ?_⟩
      · cases e : F' a with
        | none => rfl
        | some u =>
          rcases cp.fresh a (by rw [e]; simp) with z | z
          · exact absurd w2 z
          · exact (w3.nw z).elim
      · have hk : (∀ ps, o ≠ .tbl ps) → H' a = some o := cp.keep a o ho fun k e => by
          obtain ⟨j, t, z1, z2, z3, z4⟩ := gone a k e
          by_cases hij : j = i
          · subst hij
            have hS : (hs.map (argS ρ))[k]? = some (.p x) := by
              rw [List.getElem?_map, z1]
              show some (argS ρ (.r j)) = _
              unfold argS
              dsimp only
              rw [hi]
              cases s <;> first | (cases hx; rfl) | cases hx
            obtain ⟨b, y', _, e2, _⟩ := cp.prm k x hS
            obtain ⟨z, hz⟩ := newOf_at z1 e2
            rw [q] at hz
            cases hz
          · exact I.apart j i t s a hij z2 hi z3 (by rw [hx]; simp) z4 w1
        exact w3.mono cp.ff ((hk (w3.kind ho).1).trans ho.symm)
  have shape : ∀ (i : Nat) (s' : S), (backS (newOf hs ρf) 0 ρ)[i]? = some s' → ∃ s, ρ[i]? = some s ∧ s' = (match s with
    | .o x => .o ((newOf hs ρf i).getD x)
    | .p x => .p ((newOf hs ρf i).getD x)
    | s => s) := fun i s' e => by
    rw [backS_get, Nat.zero_add] at e
    cases q : ρ[i]? with
    | none => rw [q] at e; cases e
    | some s =>
      rw [q] at e
      exact ⟨s, rfl, (Option.some.inj e).symm⟩
  have ownS : ∀ (i : Nat) (s' : S), (backS (newOf hs ρf) 0 ρ)[i]? = some s' → s'.own ≠ none → ∃ s, ρ[i]? = some s ∧ s.own ≠ none := fun i s' e h => by
    obtain ⟨s, q, rfl⟩ := shape i s' e
    refine ⟨s, q, ?_⟩
    cases s with
    | o x => simp [S.own]
    | p x => simp [S.own]
    | un => exact absurd rfl h
    | d x => exact absurd rfl h
  exact { len := by rw [backS_length]; exact I.len
          fh := cp.fh
          f0 := I.f0.trans cp.ff
          nt := cp.nt
          tabs := cp.tabs
          keep := fun a o h n t => cp.keep a o (I.keep a o h n t) (fun i e => by
            obtain ⟨k, s, z1, z2, z3, z4⟩ := gone a i e
            cases s with
            | o x =>
              obtain ⟨b, w1, _, _, w4⟩ := I.obj k x z2
              rw [z4] at w1
              cases w1
              obtain ⟨ps, z⟩ := w4 o h
              exact t ps z
            | p x =>
              obtain ⟨b, w1, _, _, w4⟩ := I.prm k x z2
              rw [z4] at w1
              cases w1
              exact n k w4
            | un => exact z3 rfl
            | d x => exact z3 rfl) t
          fresh := fun a h => by
            rcases cp.fresh a h with z | z
            · exact I.fresh a z
            · exact .inr (I.nwOf z)
          dat := fun i x e => by
            obtain ⟨s, q, es⟩ := shape i _ e
            cases s with
            | d y =>
              cases es
              obtain ⟨v, h1, h2⟩ := I.dat i _ q
              exact ⟨v, h1, h2.mono cp.ff⟩
            | un => cases es
            | o y => cases es
            | p y => cases es
          obj := fun i x e => by
            obtain ⟨s, q, es⟩ := shape i _ e
            cases s with
            | o y =>
              cases es
              obtain ⟨a, h1, h2, h3⟩ := ownAt i _ y q rfl
              obtain ⟨b, w1, _, _, w4⟩ := I.obj i y q
              rw [h1] at w1
              cases w1
              exact ⟨a, h1, h2, h3, w4⟩
            | un => cases es
            | d y => cases es
            | p y => cases es
          prm := fun i x e => by
            obtain ⟨s, q, es⟩ := shape i _ e
            cases s with
            | p y =>
              cases es
              obtain ⟨a, h1, h2, h3⟩ := ownAt i _ y q rfl
              obtain ⟨b, w1, _, _, w4⟩ := I.prm i y q
              rw [h1] at w1
              cases w1
              exact ⟨a, h1, h2, h3, w4⟩
            | un => cases es
            | d y => cases es
            | o y => cases es
          par := fun i a h => by
            obtain ⟨⟨x, hx⟩, ho⟩ := I.par i a h
            refine ⟨⟨(newOf hs ρf i).getD x, ?_⟩, ho⟩
            rw [backS_get, Nat.zero_add, hx]
            rfl
          apart := fun i j s t a hij h1 h2 h3 h4 => by
            obtain ⟨s0, q1, n1⟩ := ownS i s h1 h3
            obtain ⟨t0, q2, n2⟩ := ownS j t h2 h4
            exact I.apart i j s0 t0 a hij q1 q2 n1 n2
          tmp := fun q hq => by
            obtain ⟨h2, h3, h4, h5⟩ := I.tmp q hq
            obtain ⟨o, ho⟩ := h3.there
            refine ⟨?_, ?_, h4, fun i s hi hs => ?_⟩
            · cases e : F' q.1 with
              | none => rfl
              | some u =>
                rcases cp.fresh q.1 (by rw [e]; simp) with z | z
                · exact absurd h2 z
                · exact (h3.nw z).elim
            · have hk : (∀ ps, o ≠ .tbl ps) → H' q.1 = some o := cp.keep q.1 o ho fun k e => by
                obtain ⟨j, t, z1, z2, z3, z4⟩ := gone q.1 k e
                exact h5 j t z2 z3 z4
              exact h3.mono cp.ff ((hk (h3.kind ho).1).trans ho.symm)
            · obtain ⟨s0, q1, n1⟩ := ownS i s hi hs
              exact h5 i s0 q1 n1 }
end
section
variable {X : Cx} {G : GG} {g : Gh} {W : WX} {pos p apos : Pos}
theorem newp {F H : Hp} {ρ : List S} {σ : L2.St} {a : Addr} (I : Good G g F ρ σ H) (n : Nw H a) : Nw g.H a ∧ (∀ (i : Nat) (s : S), ρ[i]? = some s → s.own ≠ none → σ[i]? ≠ some (some (V.ref a))) ∧ ∀ q ∈ g.T, q.1 ≠ a := by
  refine ⟨I.nwOf n, fun i s hi hs e => ?_, fun q hq e => ?_⟩
  · cases q : s.own with
    | none => exact hs q
    | some x =>
      obtain ⟨b, e2, _, ow2⟩ := I.own hi q
      rw [e] at e2; cases e2
      exact ow2.nw n
  · obtain ⟨_, h3, _⟩ := I.tmp q hq
    rw [e] at h3
    exact h3.nw n
theorem call_go {m : Fn} {r : List S → R (List HV)} {n : Nat} {σ : L2.St} {H : Hp} {Q : VK} (h : tM G g W (mCall n m r) σ H Q) : tMA G g W r σ H fun vs H1 => spM G m n (vs ++ []) H1 Q (WE W σ) := by
  obtain ⟨F, ρ, I, k⟩ := h
  refine ⟨F, ρ, I, k.bind.imp fun F1 H1 ρ1 hs s1 I1 k1 vs rv => ?_⟩
  show spM G m n (vs ++ []) H1 Q (WE W σ)
  rw [List.append_nil]
  split at k1
  · rename_i ok0
    obtain ⟨okn, ok⟩ := Bool.and_eq_true_iff.mp ok0
    have AO := args_ok I1 rv ok
    refine ⟨rv.len.trans (of_decide_eq_true okn), F1, hs.map (argS ρ1), I1.fh, AO, ?_⟩
    cases q : m (hs.map (argS ρ1)) with
    | bad => rw [q] at k1; exact k1.elim
    | rt rv' ρf =>
      rw [q] at k1
      intro F2 H2 v cp ro
      have I2 := I1.call rv ok cp
      refine k1 F2 H2 cp.ff I2 v ?_
      cases rv' with
      | d x => exact ro
      | r i => exact ro.elim
      | f x =>
        obtain ⟨a, rfl, n1, n2, ow⟩ := ro
        obtain ⟨h1, h2, h3⟩ := newp I1 n1
        refine ⟨a, rfl, n2, h1, ow, fun i s hi hs => ?_, h3⟩
        rw [backS_get, Nat.zero_add] at hi
        cases q3 : ρ1[i]? with
        | none => rw [q3] at hi; cases hi
        | some t =>
          refine h2 i t q3 ?_
          rw [q3] at hi
          have hi := Option.some.inj hi
          cases t with
          | o x => simp [S.own]
          | p x => simp [S.own]
          | un =>
            subst hi
            exact absurd rfl hs
          | d x =>
            subst hi
            exact absurd rfl hs
    | ex e ρf =>
      rw [q] at k1
      exact fun F2 H2 cls d cp rx => k1 F2 H2 cls d cp.ff (I1.call rv ok cp) rx
  · exact k1.elim
theorem me_call {x : Str} {e : Expr} {es : List Expr} {m : Fn} {r : List S → R (List HV)} {k j n : Nat} (c : Cal X.prog X.w X.K X.mg X.base G k x n m) (hr : Room j X.A) (hk : k ≤ j) (hg : Gl X x) (tk : Takes X W) (ha : MA X G g W (e :: es) r)
    (hdb : (x == ("__debug__" : Str)) = false := by decide) (he : starEach (e :: es) X.env = (false, eval e X.env) :: starEach es X.env := by rfl) (hpl : (backTo pos (starEach es X.env)).any (·.1) = false := by rfl) :
    ME X G g W (.Call (.Name x p) (e :: es) [] pos) (mCall n m r) := by
  obtain ⟨f, fd, ps, F, hm, hkp, hb, hn⟩ := c.ex
  subst hn
  exact pe_imp (pe_callSD (E := fun σ => WE W σ) F (hr.mono hk) hg hm hkp hb .nil (fun σ => passAt tk σ) ha hdb he hpl) fun _ _ _ => call_go
end
end MM
set_option Elab.async false
set_option maxRecDepth 100000
set_option maxHeartbeats 2000000
namespace MM
open PySem PySem.Spec PyProof.Rows L2
def S.chg : S → D → S
  | .o _, x => .o x
  | .p _, x => .p x
  | s, _ => s
theorem S.chg_own {s : S} {x y : D} (h : s.own = some x) : (s.chg y).own = some y := by
  cases s <;> first | rfl | cases h
theorem upd_get {H : Hp} {a b : Addr} {o : HO} : upd H a o b = if b = a then some o else H b := rfl
section
variable {G : GG} {g : Gh} {F F' H H' : Hp} {ρ : List S} {σ : L2.St}
theorem OwnAt.other {a b : Addr} {x : D} {o : HO} (h : OwnAt G F H b x) (ne : b ≠ a) : OwnAt G F (upd H a o) b x := h.mono (.refl _) (upd_ne ne)
/-- a slot's object changes -/
theorem Good.change (I : Good G g F ρ σ H) {i : Nat} {s : S} {x x' : D} {a : Addr} {o : HO} (h : ρ[i]? = some s) (e : s.own = some x) (ha : σ[i]? = some (some (V.ref a))) (ow : OwnAt G F (upd H a o) a x') : Good G g F (ρ.set i (s.chg x')) σ (upd H a o) := by
  obtain ⟨a', e1, nF, ow0⟩ := I.own h e
  rw [ha] at e1
  cases e1
  have hi : i < ρ.length := (List.getElem?_eq_some_iff.mp h).1
  have hs : s.own ≠ none := by rw [e]; simp
  have at_ : ∀ (j : Nat) (t : S), (ρ.set i (s.chg x'))[j]? = some t → (j = i ∧ t = s.chg x') ∨ (j ≠ i ∧ ρ[j]? = some t) := fun j t hj => by
    by_cases z : j = i
    · subst z
      rw [List.getElem?_set_self hi] at hj
      exact .inl ⟨rfl, (Option.some.inj hj).symm⟩
    · rw [List.getElem?_set_ne (Ne.symm z)] at hj
      exact .inr ⟨z, hj⟩
  have ne : ∀ (j : Nat) (t : S) (b : Addr), j ≠ i → ρ[j]? = some t → t.own ≠ none → σ[j]? = some (some (V.ref b)) → b ≠ a := fun j t b hj h1 h2 h3 z => by
    subst z
    exact I.apart i j s t b (Ne.symm hj) h h1 hs h2 ha h3
  exact { len := by rw [List.length_set]; exact I.len
          fh := fun b u hb => by
            rw [upd_ne fun z => by rw [z, nF] at hb; cases hb]
            exact I.fh _ _ hb
          f0 := I.f0
          keep := fun b u hb n t => by
            rw [upd_ne fun z => ?_]
            · exact I.keep b u hb n t
            · subst z
              cases s with
              | o y =>
                obtain ⟨c, w1, _, _, w4⟩ := I.obj i y h
                rw [ha] at w1
                cases w1
                obtain ⟨ps, z⟩ := w4 u hb
                exact t ps z
              | p y =>
                obtain ⟨c, w1, _, _, w4⟩ := I.prm i y h
                rw [ha] at w1
                cases w1
                exact n i w4
              | un => cases e
              | d y => cases e
          nt := I.nt
          tabs := tabs_upd I.tabs ow0
          fresh := I.fresh
          dat := fun j y hj => by
            rcases at_ j _ hj with ⟨_, z⟩ | ⟨_, hj'⟩
            · cases s <;> cases z <;> cases e
            · exact I.dat j y hj'
          obj := fun j y hj => by
            rcases at_ j _ hj with ⟨z1, z⟩ | ⟨nj, hj'⟩
            · subst z1
              cases s with
              | o y0 =>
                cases z
                obtain ⟨c, w1, _, _, w4⟩ := I.obj j y0 h
                rw [ha] at w1
                cases w1
                exact ⟨a, ha, nF, ow, w4⟩
              | p y0 => cases z
              | un => cases e
              | d y0 => cases e
            · obtain ⟨b, w1, w2, w3, w4⟩ := I.obj j y hj'
              exact ⟨b, w1, w2, w3.other (ne j _ b nj hj' (by simp [S.own]) w1), w4⟩
          prm := fun j y hj => by
            rcases at_ j _ hj with ⟨z1, z⟩ | ⟨nj, hj'⟩
            · subst z1
              cases s with
              | p y0 =>
                cases z
                obtain ⟨c, w1, _, _, w4⟩ := I.prm j y0 h
                rw [ha] at w1
                cases w1
                exact ⟨a, ha, nF, ow, w4⟩
              | o y0 => cases z
              | un => cases e
              | d y0 => cases e
            · obtain ⟨b, w1, w2, w3, w4⟩ := I.prm j y hj'
              exact ⟨b, w1, w2, w3.other (ne j _ b nj hj' (by simp [S.own]) w1), w4⟩
          par := fun j b hj => by
            obtain ⟨⟨y, hy⟩, ho⟩ := I.par j b hj
            by_cases z : j = i
            · subst z
              rw [h] at hy
              cases hy
              exact ⟨⟨x', List.getElem?_set_self hi⟩, ho⟩
            · exact ⟨⟨y, by rw [List.getElem?_set_ne (Ne.symm z)]; exact hy⟩, ho⟩
          apart := fun j k t u b hjk h1 h2 h3 h4 => by
            have old : ∀ (j : Nat) (t : S), (ρ.set i (s.chg x'))[j]? = some t → t.own ≠ none → ∃ t0, ρ[j]? = some t0 ∧ t0.own ≠ none := fun j t hj ht => by
              rcases at_ j t hj with ⟨z1, _⟩ | ⟨_, hj'⟩
              · subst z1
                exact ⟨s, h, hs⟩
              · exact ⟨t, hj', ht⟩
            obtain ⟨t0, q1, n1⟩ := old j t h1 h3
            obtain ⟨u0, q2, n2⟩ := old k u h2 h4
            exact I.apart j k t0 u0 b hjk q1 q2 n1 n2
          tmp := fun q hq => by
            obtain ⟨h2, h3, h4, h5⟩ := I.tmp q hq
            refine ⟨h2, h3.other fun z => h5 i s h hs (by rw [z]; exact ha), h4, fun j t hj ht => ?_⟩
            rcases at_ j t hj with ⟨z1, _⟩ | ⟨_, hj'⟩
            · subst z1
              exact h5 j s h hs
            · exact h5 j t hj' ht }
/-! what waits -/
def Gh.addT (g : Gh) (q : Addr × D) : Gh := { g with T := q :: g.T }
theorem Good.addT (I : Good G g F ρ σ H) {a : Addr} {x : D} (n : F a = none) (h0 : Nw g.H a) (ow : OwnAt G F H a x) (ap : ∀ (i : Nat) (s : S), ρ[i]? = some s → s.own ≠ none → σ[i]? ≠ some (some (V.ref a))) : Good G (g.addT (a, x)) F ρ σ H :=
  ⟨I.len, I.fh, I.f0, I.keep, I.fresh, I.dat, I.obj, I.prm, I.par, I.apart, fun q hq => by
    rcases List.mem_cons.mp hq with e | hq
    · subst e
      exact ⟨n, ow, h0, ap⟩
    · exact I.tmp q hq, I.nt, I.tabs⟩
theorem Good.dropT {q : Addr × D} (I : Good G (g.addT q) F ρ σ H) : Good G g F ρ σ H :=
  ⟨I.len, I.fh, I.f0, I.keep, I.fresh, I.dat, I.obj, I.prm, I.par, I.apart, fun t ht => I.tmp t (List.mem_cons_of_mem _ ht), I.nt, I.tabs⟩
theorem Good.headT {a : Addr} {x : D} (I : Good G (g.addT (a, x)) F ρ σ H) : F a = none ∧ OwnAt G F H a x ∧ Nw g.H a ∧ ∀ (i : Nat) (s : S), ρ[i]? = some s → s.own ≠ none → σ[i]? ≠ some (some (V.ref a)) := I.tmp (a, x) List.mem_cons_self
theorem Good.changeT {a : Addr} {x x' : D} {o : HO} (I : Good G (g.addT (a, x)) F ρ σ H) (nT : ∀ q ∈ g.T, q.1 ≠ a) (ow : OwnAt G F (upd H a o) a x') : Good G (g.addT (a, x')) F ρ σ (upd H a o) := by
  obtain ⟨nF, ow0, h0, ap⟩ := I.headT
  refine ⟨I.len, fun b u hb => ?_, I.f0, fun b u hb n t => ?_, I.fresh, I.dat, fun j y hj => ?_, fun j y hj => ?_, I.par, I.apart, fun t ht => ?_, I.nt, tabs_upd I.tabs ow0⟩
  · rw [upd_ne fun z => by rw [z, nF] at hb; cases hb]
    exact I.fh _ _ hb
  · rw [upd_ne fun z => ?_]
    · exact I.keep b u hb n t
    · have hb : g.H b = some u := hb
      rw [z] at hb
      obtain ⟨ps, z2⟩ := h0 u hb
      exact t ps z2
  · obtain ⟨b, w1, w2, w3, w4⟩ := I.obj j y hj
    exact ⟨b, w1, w2, w3.other fun z => ap j _ hj (by simp [S.own]) (by rw [← z]; exact w1), w4⟩
  · obtain ⟨b, w1, w2, w3, w4⟩ := I.prm j y hj
    exact ⟨b, w1, w2, w3.other fun z => ap j _ hj (by simp [S.own]) (by rw [← z]; exact w1), w4⟩
  · rcases List.mem_cons.mp ht with e | ht
    · subst e
      exact ⟨nF, ow, h0, ap⟩
    · obtain ⟨h2, h3, h4, h5⟩ := I.tmp t (List.mem_cons_of_mem _ ht)
      exact ⟨h2, h3.other (nT t ht), h4, h5⟩
end
section
variable {X : Cx} {G : GG} {g : Gh} {W : WX} {pos p apos : Pos}
/-! ### methods that change a slot's object -/
def rOM (G : GG) (f : D → List D → Option (D × RV)) : V → List V → Hp → VK → Prop := fun v vs H Q => ∃ F a x xs x' rv, v = V.ref a ∧ Same F H ∧ F a = none ∧ OwnAt G F H a x ∧ RepA G F vs xs ∧ f x xs = some (x', rv) ∧
  ∀ o F' H' w, OwnAt G F (upd H a o) a x' → Step F (upd H a o) F' H' → RepO G (upd H a o) F' H' w rv → Q w H'
def mOM (T : String) (i : Nat) (f : D → List D → Option (D × RV)) (r : List S → R (List HV)) : Ex := fun ρ => match ρ[i]? with
  | some s0 => (match s0.own with
    | some x0 => if isTy T x0 = true then (r ρ).bind fun hs ρ1 => (forceHs hs ρ1).bind fun xs ρ2 => (match ρ2[i]? with
      | some s => (match s.own with
        | some x => (match f x xs with
          | some (x', rv) => .ok rv (ρ2.set i (s.chg x'))
          | none => .bad)
        | none => .bad)
      | none => .bad) else .bad
    | none => .bad)
  | none => .bad
theorem tM_om {T : String} {i : Nat} {f : D → List D → Option (D × RV)} {r : List S → R (List HV)} (ht : T ≠ "tuple") {σ : L2.St} {H : Hp} {Q : VK} (h : tM G g W (mOM T i f r) σ H Q) :
    ∃ v, σ[i]? = some (some v) ∧ tyV G.K T v H ∧ tMA G g W r σ H fun vs H2 => rOM G f v vs H2 Q := by
  obtain ⟨F, ρ, I, k⟩ := h
  unfold mOM at k
  cases q0 : ρ[i]? with
  | none => rw [q0] at k; exact k.elim
  | some s0 =>
    rw [q0] at k
    dsimp only at k
    cases q1 : s0.own with
    | none => rw [q1] at k; exact k.elim
    | some x0 =>
      rw [q1] at k
      dsimp only at k
      split at k
      · rename_i hT
        obtain ⟨a, e1, e2, e3⟩ := I.own q0 q1
        refine ⟨_, e1, isTy_ok I.fh (.inr ⟨a, rfl, e3⟩) hT ht, F, ρ, I, k.bind.imp fun F1 H1 ρ1 hs s1 I1 k1 vs rv => ?_⟩
        obtain ⟨F2, ρ2, xs, s2, I2, ra, k2⟩ := Post.forced I1 rv k1.bind
        cases q2 : ρ2[i]? with
        | none => rw [q2] at k2; exact k2.elim
        | some s =>
          rw [q2] at k2
          dsimp only at k2
          cases q3 : s.own with
          | none => rw [q3] at k2; exact k2.elim
          | some x =>
            rw [q3] at k2
            dsimp only at k2
            cases q4 : f x xs with
            | none => rw [q4] at k2; exact k2.elim
            | some pr =>
              obtain ⟨x', rv'⟩ := pr
              rw [q4] at k2
              obtain ⟨a', w1, w2, w3⟩ := I2.own q2 q3
              rw [e1] at w1
              cases w1
              refine ⟨F2, a, x, xs, x', rv', rfl, I2.fh, w2, w3, ra, q4, fun o F' H' w ow st ro => ?_⟩
              have I3 := I2.change q2 q3 e1 ow
              exact k2 F' H' st.ff (I3.step st) w (ro.toV I3 st)
      · exact k.elim
theorem me_om {T id : String} {name : Str} {i : Nat} {x : Str} {np : Pos} {e : Expr} {es : List Expr} {f : D → List D → Option (D × RV)} {r : List S → R (List HV)} (hK : X.K = G.K) (pa : PlainAttrs T) (slot : Slot T name id) (hty : typeOf (.builtin id) = pure (.type "method_descriptor")) (hm : MtR X id (rOM G f))
    (ho : PE X (.Name x np) (tVar i)) (hr : MA X G g W (e :: es) r) (ht : T ≠ "tuple" := by decide) (hbase : attributeBase (.Name x np) name X.env (eval (.Name x np) X.env) = eval (.Name x np) X.env := by rfl)
    (hfew : ((backTo pos (starEach (e :: es) X.env)).all (fun x => !x.1) && (backToKw pos (keywordEach [] X.env)).all (fun x => x.1.isSome)
      && decide ((e :: es).length + ([] : List Keyword).length + (if ([] : List Keyword).isEmpty then 0 else 1) < 30)) = true := by rfl)
    (hline : (apos.endLine == pos.line) = true := by rfl) (hs : starEach (e :: es) X.env = (false, eval e X.env) :: starEach es X.env := by rfl) (hplain : (backTo pos (starEach es X.env)).any (·.1) = false := by rfl) :
    ME X G g W (.Call (.Attribute (.Name x np) name apos) (e :: es) [] pos) (mOM T i f r) :=
  pe_imp (pe_bm pa slot hty hm ho hr hbase hfew hline hs hplain) fun σ H Q k => by
    obtain ⟨v, e1, e2, e3⟩ := tM_om ht k
    exact ⟨v, e1, by rw [hK]; exact e2, e3⟩
theorem me_om0 {T id : String} {name : Str} {i : Nat} {x : Str} {np : Pos} {f : D → List D → Option (D × RV)} (hK : X.K = G.K) (pa : PlainAttrs T) (slot : Slot T name id) (hty : typeOf (.builtin id) = pure (.type "method_descriptor")) (hm : MtR X id (rOM G f))
    (ho : PE X (.Name x np) (tVar i)) (ht : T ≠ "tuple" := by decide) (hbase : attributeBase (.Name x np) name X.env (eval (.Name x np) X.env) = eval (.Name x np) X.env := by rfl) (hline : (apos.endLine == pos.line) = true := by rfl) :
    ME X G g W (.Call (.Attribute (.Name x np) name apos) [] [] pos) (mOM T i f mNil) :=
  pe_imp (pe_bm0 pa slot hty hm ho hbase hline) fun σ H Q k => by
    obtain ⟨v, e1, e2, F, ρ, I, k2⟩ := tM_om ht k
    exact ⟨v, e1, by rw [hK]; exact e2, k2 F H (.refl _) I [] .nil⟩
def fAppend : D → List D → Option (D × RV)
  | .lst l, [y] => if l.length < sizeLine then some (.lst (l ++ [y]), .d .non) else none
  | _, _ => none
theorem RepA.one_inv {G : GG} {F : Hp} {vs : List V} {x : D} (r : RepA G F vs [x]) : ∃ v, vs = [v] ∧ Rep G F v x := by
  cases r with
  | cons h t =>
    cases t
    exact ⟨_, rfl, h⟩
theorem RepA.nil_inv {G : GG} {F : Hp} {vs : List V} (r : RepA G F vs []) : vs = [] := by
  cases r
  rfl
theorem mtr_of {id : String} {r r' : V → List V → Hp → VK → Prop} (h : MtR X id r) (i : ∀ v vs H Q, r' v vs H Q → r v vs H Q) : MtR X id r' := fun pins s σ H x xs v us Q I rx rv q => h pins s σ H x xs v us Q I rx rv (i _ _ _ _ q)
theorem om_append : MtR X "list.append" (rOM G fAppend) := mtr_of mt_append fun v vs H Q ⟨F, a, x, xs, x', rv, e, sF, nF, ow, ra, ef, k⟩ => by
  subst e
  cases x with
  | lst l =>
    cases xs with
    | nil => cases ef
    | cons y t =>
      cases t with
      | cons _ _ => cases ef
      | nil =>
        unfold fAppend at ef
        dsimp only at ef
        split at ef
        · rename_i hz
          cases ef
          obtain ⟨u, rfl, ru⟩ := ra.one_inv
          obtain ⟨ys, h1, h2⟩ := ow
          have sF2 : Same F (upd H a (.lst (ys ++ [u]))) := fun b o hb => by
            rw [upd_ne fun z => by rw [z, nF] at hb; cases hb]
            exact sF _ _ hb
          exact ⟨a, ys, u, rfl, rfl, h1, by rw [h2.length]; exact hz, k (.lst (ys ++ [u])) F _ .non ⟨_, upd_same, h2.append (.ones ru)⟩ (.refl sF2) .non⟩
        · cases ef
  | dic _ => cases ef
  | ins _ _ => cases ef
  | _ => exact ow.elim
def fPop : D → List D → Option (D × RV)
  | .lst l, [] => match l.getLast? with
    | some y => some (.lst l.dropLast, .d y)
    | none => none
  | .lst l, [.int i] => if -(2 ^ 63) ≤ i ∧ i < 2 ^ 63 then (match ixN l.length i with
    | some k => (match l[k]? with
      | some y => some (.lst (l.eraseIdx k), .d y)
      | none => none)
    | none => none) else none
  | _, _ => none
theorem om_pop : MtR X "list.pop" (rOM G fPop) := mtr_of (MtR.or (r := rPop) (r' := rPopAt) mt_pop mt_popAt) fun v vs H Q ⟨F, a, x, xs, x', rv, e, sF, nF, ow, ra, ef, k⟩ => by
  subst e
  have sF2 : ∀ o, Same F (upd H a o) := fun o b u hb => by
    rw [upd_ne fun z => by rw [z, nF] at hb; cases hb]
    exact sF _ _ hb
  cases x with
  | lst l =>
    obtain ⟨ys, h1, h2⟩ := ow
    cases xs with
    | nil =>
      cases ra
      unfold fPop at ef
      dsimp only at ef
      cases q : l.getLast? with
      | none => rw [q] at ef; cases ef
      | some y =>
        rw [q] at ef
        cases ef
        rw [List.getLast?_eq_getElem?] at q
        obtain ⟨u, hu, ru⟩ := h2.get q
        rw [← h2.length] at hu
        exact .inl ⟨a, ys, u, rfl, rfl, h1, hu, k (.lst ys.dropLast) F _ u ⟨_, upd_same, h2.dropLast⟩ (.refl (sF2 _)) ru⟩
    | cons y t =>
      cases t with
      | cons _ _ => cases y <;> cases ef
      | nil =>
        cases y with
        | int i =>
          obtain ⟨u, rfl, ru⟩ := ra.one_inv
          cases ru
          unfold fPop at ef
          dsimp only at ef
          split at ef
          · rename_i hb
            cases q : ixN l.length i with
            | none => rw [q] at ef; cases ef
            | some j =>
              rw [q] at ef
              dsimp only at ef
              cases q2 : l[j]? with
              | none => rw [q2] at ef; cases ef
              | some z =>
                rw [q2] at ef
                cases ef
                obtain ⟨u, hu, ru⟩ := h2.get q2
                have q3 := (ixN_seq q).1
                rw [← h2.length] at q3
                exact .inr ⟨a, ys, i, j, u, rfl, rfl, h1, hb.1, hb.2, q3, hu, k (.lst (ys.eraseIdx j)) F _ u ⟨_, upd_same, h2.eraseIdx j⟩ (.refl (sF2 _)) ru⟩
          · cases ef
        | _ => cases ef
  | dic _ => cases ef
  | ins _ _ => cases ef
  | _ => exact ow.elim
/-! ### x[i] = e, x a slot's list -/
def sSetIx (i : Nat) (ix f : Ex) : Sm := fun ρ => Out.of (mForce f ρ) fun y ρ1 => match ρ1[i]? with
  | some s0 => if s0.own.isSome = true then Out.of (ix ρ1) fun rk ρ2 => (match rk with
    | .d (.int k) => (match ρ2[i]? with
      | some s => (match s.own with
        | some (.lst l) => (match ixN l.length k with
          | some j => .nx (ρ2.set i (s.chg (.lst (l.set j y))))
          | none => .bad)
        | _ => .bad)
      | none => .bad)
    | _ => .bad) else .bad
  | none => .bad
theorem ms_setIx {i : Nat} {x : Str} {np tp : Pos} {ie e : Expr} {ix f : Ex} (ho : PE X (.Name x np) (tVar i)) (hi : ME X G g W ie ix) (h : ME X G g W e f)
    (hs : swapsWithSole [.Subscript (.Name x np) ie tp] e pos.line X.env = pure false := by rfl) (hw : swappedStores [.Subscript (.Name x np) ie tp] e X.env = pure none := by rfl)
    (h1 : (assignEach [.Subscript (.Name x np) ie tp] X.env).map (·.2) = [assign (.Subscript (.Name x np) ie tp) X.env] := by rfl)
    (ha : ∀ v, assign (.Subscript (.Name x np) ie tp) X.env v = (do
      let ov ← holding [v] (eval (.Name x np) X.env)
      let iv ← holding [v, ov] (eval ie X.env)
      standAt tp
      holding [v, ov, iv] (setItem ov iv v)
      release [v, ov, iv] []) := by intro _; rfl) : MS X G g W (.Assign [.Subscript (.Name x np) ie tp] e pos) (sSetIx i ix f) :=
  ps_imp (ps_asg (me_force h) (pg_sub ho hi set_list ha) hs hw h1) fun Dd σ H ⟨F, ρ, I, k⟩ => by
    refine ⟨F, ρ, I, (PostS.of k).imp fun F1 H1 ρ1 y s1 I1 k1 v rv => ?_⟩
    cases q0 : ρ1[i]? with
    | none => rw [q0] at k1; exact k1.elim
    | some s0 =>
      rw [q0] at k1
      dsimp only at k1
      split at k1
      · rename_i ho0
        obtain ⟨x0, hx0⟩ := Option.isSome_iff_exists.mp ho0
        obtain ⟨a, e1, e2, e3⟩ := I1.own q0 hx0
        refine ⟨_, e1, F1, ρ1, I1, (PostS.of k1).imp fun F2 H2 ρ2 rk s2 I2 k2 u ru => ?_⟩
        cases rk with
        | r _ => exact k2.elim
        | f _ => exact k2.elim
        | d z =>
          cases z with
          | int n =>
            cases ru
            dsimp only at k2
            cases q2 : ρ2[i]? with
            | none => rw [q2] at k2; exact k2.elim
            | some s =>
              rw [q2] at k2
              dsimp only at k2
              cases q3 : s.own with
              | none => rw [q3] at k2; exact k2.elim
              | some x =>
                rw [q3] at k2
                cases x with
                | lst l =>
                  dsimp only at k2
                  cases q4 : ixN l.length n with
                  | none => rw [q4] at k2; exact k2.elim
                  | some j =>
                    rw [q4] at k2
                    obtain ⟨a', w1, w2, w3⟩ := I2.own q2 q3
                    rw [e1] at w1
                    cases w1
                    obtain ⟨xs, h1, h2⟩ := w3
                    have ow : OwnAt G F2 (upd H2 a (.lst (xs.set j v))) a (.lst (l.set j y)) := ⟨_, upd_same, h2.set j (rv.mono s2)⟩
                    exact ⟨a, xs, n, j, rfl, rfl, h1, by rw [h2.length]; exact q4, k2 F2 _ σ (.refl _) (I2.change q2 q3 e1 ow)⟩
                | _ => exact k2.elim
          | _ => exact k2.elim
      · exact k1.elim
end
end MM
set_option Elab.async false
set_option maxRecDepth 100000
set_option maxHeartbeats 2000000
namespace MM
open PySem PySem.Spec PyProof.Rows L2
/-! ### several values, then several names -/
/-- values that wait, the last one ahead: g is g0 with the new objects among them -/
inductive RowOk (G : GG) (F : Hp) (σ : L2.St) (g0 : Gh) : Gh → List V → List RV → Prop
  | nil : RowOk G F σ g0 g0 [] []
  | d {g : Gh} {v : V} {x : D} {vs : List V} {rs : List RV} : Rep G F v x → RowOk G F σ g0 g vs rs → RowOk G F σ g0 g (v :: vs) (.d x :: rs)
  | r {g : Gh} {v : V} {i : Nat} {vs : List V} {rs : List RV} : σ[i]? = some (some v) → RowOk G F σ g0 g vs rs → RowOk G F σ g0 g (v :: vs) (.r i :: rs)
  | f {g : Gh} {a : Addr} {x : D} {vs : List V} {rs : List RV} : (∀ q ∈ g.T, q.1 ≠ a) → RowOk G F σ g0 g vs rs → RowOk G F σ g0 (g.addT (a, x)) (.ref a :: vs) (.f x :: rs)
theorem RowOk.mono {G : GG} {F F' : Hp} {σ : L2.St} {g0 g : Gh} {vs : List V} {rs : List RV} (h : RowOk G F σ g0 g vs rs) (s : Same F F') : RowOk G F' σ g0 g vs rs := by
  induction h with
  | nil => exact .nil
  | d r _ ih => exact .d (r.mono s) ih
  | r e _ ih => exact .r e ih
  | f n _ ih => exact .f n ih
theorem Post.reg {G : GG} {g : Gh} {W : WX} {F : Hp} {σ : L2.St} {α : Type} {r : R α} {K : Hp → Hp → List S → α → Prop} {q : Addr × D} (h : Post G g W F σ r K) : Post G (g.addT q) W F σ r K := by
  cases r with
  | ok a ρ => exact fun F' H' s I => h F' H' s I.dropT
  | ex e ρ => exact fun F' H' c d s I => h F' H' c d s I.dropT
  | bad => exact h
theorem RowOk.reg {G : GG} {F0 : Hp} {g0 g : Gh} {W : WX} {F : Hp} {σ : L2.St} {vs : List V} {rs : List RV} (h : RowOk G F0 σ g0 g vs rs) {α : Type} {r : R α} {K : Hp → Hp → List S → α → Prop} (k : Post G g0 W F σ r K) : Post G g W F σ r K := by
  induction h with
  | nil => exact k
  | d _ _ ih => exact ih
  | r _ _ ih => exact ih
  | f _ _ ih => exact ih.reg
/-- one more value has come -/
theorem RowOk.push {G : GG} {F F' H' : Hp} {ρ : List S} {σ : L2.St} {g0 g : Gh} {vs : List V} {rs : List RV} (h : RowOk G F σ g0 g vs rs) (s : Same F F') (I : Good G g F' ρ σ H') {v : V} {rv : RV} (r : RepV G g F' H' ρ σ v rv) :
    ∃ g', Good G g' F' ρ σ H' ∧ RowOk G F' σ g0 g' (v :: vs) (rv :: rs) := by
  cases rv with
  | d x => exact ⟨g, I, .d r (h.mono s)⟩
  | r i => exact ⟨g, I, .r r (h.mono s)⟩
  | f x =>
    obtain ⟨a, rfl, n, h0, ow, ap, nT⟩ := r
    exact ⟨_, I.addT n h0 ow ap, .f nT (h.mono s)⟩
def settle (rv : RV) (ρ : List S) : R RV := match rv with
  | .r i => (forceRV (.r i) ρ).bind fun x ρ1 => .ok (.d x) ρ1
  | r => .ok r ρ
def settles : List RV → List S → R (List RV)
  | [], ρ => .ok [] ρ
  | r :: rs, ρ => (settles rs ρ).bind fun rs' ρ1 => (settle r ρ1).bind fun r' ρ2 => .ok (r' :: rs') ρ2
theorem settle_ex {rv : RV} {ρ ρ' : List S} {e : Exn} (h : settle rv ρ = .ex e ρ') : False := by
  cases rv with
  | d x => cases h
  | f x => cases h
  | r i =>
    unfold settle at h
    dsimp only at h
    cases q : forceRV (.r i) ρ with
    | bad => rw [q] at h; cases h
    | ex _ _ => exact forceRV_ex q
    | ok x ρ1 => rw [q] at h; cases h
theorem RowOk.base {G : GG} {F0 F H : Hp} {σ0 σ : L2.St} {ρ : List S} {g0 g : Gh} {vs : List V} {rs : List RV} (h : RowOk G F0 σ0 g0 g vs rs) (I : Good G g F ρ σ H) : Good G g0 F ρ σ H := by
  induction h with
  | nil => exact I
  | d _ _ ih => exact ih I
  | r _ _ ih => exact ih I
  | f _ _ ih => exact ih I.dropT
inductive Refs (σ : L2.St) : List V → List RV → Prop
  | nil : Refs σ [] []
  | d {v : V} {x : D} {vs : List V} {rs : List RV} : Refs σ vs rs → Refs σ (v :: vs) (.d x :: rs)
  | f {v : V} {x : D} {vs : List V} {rs : List RV} : Refs σ vs rs → Refs σ (v :: vs) (.f x :: rs)
  | r {v : V} {i : Nat} {vs : List V} {rs : List RV} : σ[i]? = some (some v) → Refs σ vs rs → Refs σ (v :: vs) (.r i :: rs)
theorem RowOk.refs {G : GG} {F : Hp} {σ : L2.St} {g0 g : Gh} {vs : List V} {rs : List RV} (h : RowOk G F σ g0 g vs rs) : Refs σ vs rs := by
  induction h with
  | nil => exact .nil
  | d r _ ih => exact .d ih
  | r e _ ih => exact .r e ih
  | f n _ ih => exact .f ih
inductive SetTo (G : GG) (F : Hp) : List V → List RV → List RV → Prop
  | nil : SetTo G F [] [] []
  | d {v : V} {x : D} {vs : List V} {rs rs' : List RV} : SetTo G F vs rs rs' → SetTo G F (v :: vs) (.d x :: rs) (.d x :: rs')
  | f {v : V} {x : D} {vs : List V} {rs rs' : List RV} : SetTo G F vs rs rs' → SetTo G F (v :: vs) (.f x :: rs) (.f x :: rs')
  | r {v : V} {x : D} {i : Nat} {vs : List V} {rs rs' : List RV} : Rep G F v x → SetTo G F vs rs rs' → SetTo G F (v :: vs) (.r i :: rs) (.d x :: rs')
theorem SetTo.mono {G : GG} {F F' : Hp} {vs : List V} {rs rs' : List RV} (h : SetTo G F vs rs rs') (s : Same F F') : SetTo G F' vs rs rs' := by
  induction h with
  | nil => exact .nil
  | d _ ih => exact .d ih
  | f _ ih => exact .f ih
  | r r _ ih => exact .r (r.mono s) ih
theorem settles_ok {G : GG} {H : Hp} {σ : L2.St} {g : Gh} : ∀ {vs : List V} {rs rs' : List RV} {F : Hp} {ρ ρ' : List S}, Refs σ vs rs → Good G g F ρ σ H → settles rs ρ = .ok rs' ρ' →
    ∃ F', Same F F' ∧ Good G g F' ρ' σ H ∧ SetTo G F' vs rs rs'
  | _, _, _, F, _, _, .nil, I, e => by
    cases e
    exact ⟨F, .refl _, I, .nil⟩
  | _, _, _, F, ρ, _, .d (x := x) (rs := rs) h, I, e => by
    unfold settles at e
    cases q : settles rs ρ with
    | bad => rw [q] at e; cases e
    | ex _ _ => rw [q] at e; cases e
    | ok ys ρ1 =>
      rw [q] at e
      cases e
      obtain ⟨F1, s1, I1, R1⟩ := settles_ok h I q
      exact ⟨F1, s1, I1, .d R1⟩
  | _, _, _, F, ρ, _, .f (x := x) (rs := rs) h, I, e => by
    unfold settles at e
    cases q : settles rs ρ with
    | bad => rw [q] at e; cases e
    | ex _ _ => rw [q] at e; cases e
    | ok ys ρ1 =>
      rw [q] at e
      cases e
      obtain ⟨F1, s1, I1, R1⟩ := settles_ok h I q
      exact ⟨F1, s1, I1, .f R1⟩
  | _, _, rs', F, ρ, ρ', .r (v := v) (i := j) (rs := rs) r h, I, e => by
    unfold settles at e
    cases q : settles rs ρ with
    | bad => rw [q] at e; cases e
    | ex _ _ => rw [q] at e; cases e
    | ok ys ρ1 =>
      rw [q] at e
      obtain ⟨F1, s1, I1, R1⟩ := settles_ok h I q
      have e : ((settle (.r j) ρ1).bind fun r' ρ2 => R.ok (r' :: ys) ρ2) = R.ok rs' ρ' := e
      unfold settle at e
      dsimp only at e
      cases q2 : forceRV (.r j) ρ1 with
      | bad => rw [q2] at e; cases e
      | ex _ _ => rw [q2] at e; cases e
      | ok x ρ2 =>
        rw [q2] at e
        cases e
        obtain ⟨F2, s2, I2, r2⟩ := forceRV_ok (rv := .r j) (v := v) I1 r q2
        exact ⟨F2, s1.trans s2, I2, .r r2 (R1.mono s2)⟩
theorem settles_ex : ∀ {rs : List RV} {ρ ρ' : List S} {e : Exn}, settles rs ρ = .ex e ρ' → False
  | [], _, _, _, h => by cases h
  | r :: rs, ρ, _, _, h => by
    unfold settles at h
    cases q : settles rs ρ with
    | bad => rw [q] at h; cases h
    | ex _ _ => exact settles_ex q
    | ok ys ρ1 =>
      rw [q] at h
      have h : ((settle r ρ1).bind fun r' ρ2 => R.ok (r' :: ys) ρ2) = _ := h
      cases q2 : settle r ρ1 with
      | bad => rw [q2] at h; cases h
      | ex _ _ => exact settle_ex q2
      | ok x ρ2 => rw [q2] at h; cases h
theorem RowOk.settled {G : GG} {F F' : Hp} {σ : L2.St} {g0 g : Gh} {vs : List V} {rs : List RV} (h : RowOk G F σ g0 g vs rs) : ∀ {rs' : List RV}, SetTo G F' vs rs rs' → Same F F' → RowOk G F' σ g0 g vs rs' ∧ ∀ i, RV.r i ∉ rs' := by
  induction h with
  | nil =>
    intro rs' t s
    cases t
    exact ⟨.nil, fun i => by simp⟩
  | d r _ ih =>
    intro rs' t s
    cases t with
    | d t =>
      obtain ⟨R, n⟩ := ih t s
      exact ⟨.d (r.mono s) R, fun i hi => by
        rcases List.mem_cons.mp hi with z | z
        · cases z
        · exact n i z⟩
  | r e _ ih =>
    intro rs' t s
    cases t with
    | r r t =>
      obtain ⟨R, n⟩ := ih t s
      exact ⟨.d r R, fun i hi => by
        rcases List.mem_cons.mp hi with z | z
        · cases z
        · exact n i z⟩
  | f nT _ ih =>
    intro rs' t s
    cases t with
    | f t =>
      obtain ⟨R, n⟩ := ih t s
      exact ⟨.f nT R, fun i hi => by
        rcases List.mem_cons.mp hi with z | z
        · cases z
        · exact n i z⟩
def setV : List Nat → List V → L2.St → L2.St
  | i :: is, v :: vs, σ => setV is vs (σ.set i (some v))
  | _, _, σ => σ
def putRVs : List Nat → List RV → List S → Option (List S)
  | [], [], ρ => some ρ
  | i :: is, r :: rs, ρ => (putRV i r ρ).bind fun ρ1 => putRVs is rs ρ1
  | _, _, _ => none
theorem putRVs_ok {G : GG} {H : Hp} {g0 : Gh} : ∀ {is : List Nat} {vs : List V} {rs : List RV} {F : Hp} {σ σ0 : L2.St} {g : Gh} {ρ ρ' : List S}, RowOk G F σ0 g0 g vs rs → (∀ i, RV.r i ∉ rs) → Good G g F ρ σ H → putRVs is rs ρ = some ρ' → Good G g0 F ρ' (setV is vs σ) H := by
  intro is vs rs F σ σ0 g ρ ρ' h
  induction h generalizing is σ ρ ρ' with
  | nil =>
    intro n I e
    cases is with
    | nil => cases e; exact I
    | cons i is => cases e
  | @d g v x vs rs r hr ih =>
    intro n I e
    cases is with
    | nil => cases e
    | cons i is =>
      unfold putRVs at e
      cases q : putRV i (.d x) ρ with
      | none => rw [q] at e; cases e
      | some ρ1 =>
        rw [q] at e
        exact ih (fun j hj => n j (List.mem_cons_of_mem _ hj)) (I.putD r q) e
  | @r g v j vs rs r hr ih =>
    intro n
    exact absurd List.mem_cons_self (n j)
  | @f g a x vs rs nT hr ih =>
    intro n I e
    cases is with
    | nil => cases e
    | cons i is =>
      unfold putRVs at e
      cases q : putRV i (.f x) ρ with
      | none => rw [q] at e; cases e
      | some ρ1 =>
        rw [q] at e
        obtain ⟨nF, ow, h0, ap⟩ := I.headT
        exact ih (fun j hj => n j (List.mem_cons_of_mem _ hj)) (I.dropT.putF ⟨a, rfl, nF, h0, ow, ap, nT⟩ q) e
section
variable {X : Cx} {G : GG} {g : Gh} {W : WX} {pos p apos : Pos}
/-- the values, the last one ahead -/
def mRow : List Ex → List RV → List S → R (List RV)
  | [], acc, ρ => .ok acc ρ
  | f :: fs, acc, ρ => (f ρ).bind fun rv ρ1 => mRow fs (rv :: acc) ρ1
def sPar (is : List Nat) (fs : List Ex) : Sm := fun ρ => Out.of (mRow fs [] ρ) fun rs ρ1 => Out.of (settles rs ρ1) fun rs' ρ2 => nxO (putRVs is.reverse rs' ρ2)
def tMX (G : GG) (W : WX) (f : Ex) : TE := fun σ H Q => ∃ g, tM G g W f σ H Q
theorem pe_ex {e : Expr} {f : Ex} (h : ∀ g, ME X G g W e f) : PE X e (tMX G W f) := ⟨fun pins s σ H Q I ⟨g, w⟩ => (h g).run pins s σ H Q I w⟩
inductive PEs (X : Cx) (G : GG) (W : WX) : List Expr → List Ex → TA → Prop
  | nil : PEs X G W [] [] tNil
  | cons {e : Expr} {es : List Expr} {f : Ex} {fs : List Ex} {t : TA} : (∀ g, ME X G g W e f) → PEs X G W es fs t → PEs X G W (e :: es) (f :: fs) (tCons (tMX G W f) t)
theorem row_go {fs : List Ex} {es : List Expr} {t : TA} (h : PEs X G W es fs t) : ∀ {σ : L2.St} {H F0 F : Hp} {ρ : List S} {g1 : Gh} {vs : List V} {acc : List RV} {K : Hp → Hp → List S → List RV → Prop} {Q : List V → Hp → Prop}, RowOk G F σ g g1 vs acc → Good G g1 F ρ σ H → Post G g W F σ (mRow fs acc ρ) K →
    (∀ F2 H2 ρ2 g2 vs2 rs2, RowOk G F2 σ g g2 (vs2.reverse ++ vs) rs2 → Good G g2 F2 ρ2 σ H2 → K F2 H2 ρ2 rs2 → Q vs2 H2) → t σ H Q := by
  induction h with
  | nil =>
    intro σ H F0 F ρ g1 vs acc K Q RO I k q
    have k : Post G g W F σ (MM.R.ok acc ρ) K := k
    refine q F H ρ g1 [] acc RO I (k F H (.refl _) (RO.base I))
  | @cons e es f fs t hf _ ih =>
    intro σ H F0 F ρ g1 vs acc K Q R I k q
    have k : Post G g W F σ ((f ρ).bind fun rv ρ1 => mRow fs (rv :: acc) ρ1) K := k
    have kb := R.reg k.bind
    refine ⟨g1, F, ρ, I, kb.imp fun F1 H1 ρ1 rv s1 I1 k1 v r => ?_⟩
    obtain ⟨g2, I2, R2⟩ := R.push s1 I1 r
    exact ih (F0 := F) R2 I2 k1 fun F3 H3 ρ3 g3 vs3 rs3 R3 I3 k3 => q F3 H3 ρ3 g3 (v :: vs3) rs3 (by
      have e : (v :: vs3).reverse ++ vs = vs3.reverse ++ (v :: vs) := by simp
      rw [e]
      exact R3) I3 k3
theorem par_go {is : List Nat} {fs : List Ex} {es : List Expr} {t : TA} (h : PEs X G W es fs t) {Dd : Ends} {σ : L2.St} {H : Hp} (k : tMS G g W (sPar is fs) Dd σ H) : t σ H fun vs H1 => Dd.nx (setV is.reverse vs.reverse σ) H1 := by
  obtain ⟨F, ρ, I, k⟩ := k
  refine row_go (F0 := F) (g := g) h (.nil) I (PostS.of (σ := σ) k) fun F2 H2 ρ2 g2 vs2 rs2 R2 I2 k2 => ?_
  cases q : settles rs2 ρ2 with
  | bad => rw [q] at k2; exact k2.elim
  | ex _ _ => exact (settles_ex q).elim
  | ok rs' ρ3 =>
    rw [q] at k2
    obtain ⟨F3, s3, I3, t3⟩ := settles_ok R2.refs I2 q
    obtain ⟨R3, n3⟩ := R2.settled t3 s3
    have k2 : PostS G g W F2 (nxO (putRVs is.reverse rs' ρ3)) Dd := k2
    cases q2 : putRVs is.reverse rs' ρ3 with
    | none => rw [q2] at k2; exact k2.elim
    | some ρ4 =>
      rw [q2] at k2
      have R3 : RowOk G F3 σ g g2 vs2.reverse rs' := by simpa using R3
      exact k2 F3 H2 _ s3 (putRVs_ok R3 n3 I3 q2)
theorem ms_par2 {i j : Nat} {x y : Str} {a b : Expr} {f h : Ex} {px py pt : Pos} {kt k2 pt2} (hc : X.calm = true) (hN : X.N.Nodup) (hi : X.N[i]? = some x) (hj : X.N[j]? = some y) (hij : i ≠ j)
    (hx : X.env.scope.names.lookup x = some .local) (hy : X.env.scope.names.lookup y = some .local) (ha : ∀ g, ME X G g W a f) (hb : ∀ g, ME X G g W b h)
    (hw : swappedStores [.Tuple [.Name x px, .Name y py] kt pt] (.Tuple [a, b] k2 pt2) X.env = pure (some [x, y]))
    (hs : swapsWithSole [.Tuple [.Name x px, .Name y py] kt pt] (.Tuple [a, b] k2 pt2) pos.line X.env = pure false := by rfl)
    (h1 : starEach [a, b] X.env = (false, eval a X.env) :: starEach [b] X.env := by rfl) (h2 : starEach [b] X.env = (false, eval b X.env) :: starEach [] X.env := by rfl) :
    MS X G g W (.Assign [.Tuple [.Name x px, .Name y py] kt pt] (.Tuple [a, b] k2 pt2) pos) (sPar [i, j] [f, h]) :=
  ps_imp (ps_par hc hN hi hj hij hx hy (pa_cons (pe_ex ha) (pa_cons (pe_ex hb) pa_nil h2) h1) hw hs) fun Dd σ H k => by
    obtain ⟨g', F, ρ, I, w⟩ := par_go (.cons ha (.cons hb .nil)) k
    refine ⟨g', F, ρ, I, w.imp fun F1 H1 ρ1 rv s1 I1 k1 v r => ?_⟩
    obtain ⟨g2, F2, ρ2, I2, w2⟩ := k1 v r
    refine ⟨g2, F2, ρ2, I2, w2.imp fun F3 H3 ρ3 rv3 s3 I3 k3 u r3 => ?_⟩
    refine ⟨v, u, rfl, ?_⟩
    have e : Dd.nx ((σ.set j (some u)).set i (some v)) H3 := k3 u r3
    rw [List.set_comm _ _ hij]
    exact e
theorem ms_par3 {i j l : Nat} {x y z : Str} {a b c : Expr} {f h m : Ex} {px py pz pt : Pos} {kt k2 pt2} (hc : X.calm = true) (hN : X.N.Nodup) (hi : X.N[i]? = some x) (hj : X.N[j]? = some y) (hl : X.N[l]? = some z) (hij : i ≠ j) (hil : i ≠ l) (hjl : j ≠ l)
    (hx : X.env.scope.names.lookup x = some .local) (hy : X.env.scope.names.lookup y = some .local) (hz : X.env.scope.names.lookup z = some .local) (ha : ∀ g, ME X G g W a f) (hb : ∀ g, ME X G g W b h) (hm : ∀ g, ME X G g W c m)
    (hw : swappedStores [.Tuple [.Name x px, .Name y py, .Name z pz] kt pt] (.Tuple [a, b, c] k2 pt2) X.env = pure (some [x, y, z]))
    (hs : swapsWithSole [.Tuple [.Name x px, .Name y py, .Name z pz] kt pt] (.Tuple [a, b, c] k2 pt2) pos.line X.env = pure false := by rfl)
    (h1 : starEach [a, b, c] X.env = (false, eval a X.env) :: starEach [b, c] X.env := by rfl) (h2 : starEach [b, c] X.env = (false, eval b X.env) :: starEach [c] X.env := by rfl) (h3 : starEach [c] X.env = (false, eval c X.env) :: starEach [] X.env := by rfl) :
    MS X G g W (.Assign [.Tuple [.Name x px, .Name y py, .Name z pz] kt pt] (.Tuple [a, b, c] k2 pt2) pos) (sPar [i, j, l] [f, h, m]) :=
  ps_imp (ps_par3 hc hN hi hj hl hij hil hjl hx hy hz (pa_cons (pe_ex ha) (pa_cons (pe_ex hb) (pa_cons (pe_ex hm) pa_nil h3) h2) h1) hw hs) fun Dd σ H k => by
    obtain ⟨g', F, ρ, I, w⟩ := par_go (.cons ha (.cons hb (.cons hm .nil))) k
    refine ⟨g', F, ρ, I, w.imp fun F1 H1 ρ1 rv s1 I1 k1 v r => ?_⟩
    obtain ⟨g2, F2, ρ2, I2, w2⟩ := k1 v r
    refine ⟨g2, F2, ρ2, I2, w2.imp fun F3 H3 ρ3 rv3 s3 I3 k3 u r3 => ?_⟩
    obtain ⟨g4, F4, ρ4, I4, w4⟩ := k3 u r3
    refine ⟨g4, F4, ρ4, I4, w4.imp fun F5 H5 ρ5 rv5 s5 I5 k5 t r5 => ?_⟩
    refine ⟨v, u, t, rfl, ?_⟩
    have e : Dd.nx (((σ.set l (some t)).set j (some u)).set i (some v)) H5 := k5 t r5
    have e2 : ((σ.set l (some t)).set j (some u)).set i (some v) = ((σ.set i (some v)).set j (some u)).set l (some t) := by
      rw [List.set_comm (some t) (some u) (Ne.symm hjl), List.set_comm (some t) (some v) (Ne.symm hil), List.set_comm (some u) (some v) (Ne.symm hij)]
    rw [← e2]
    exact e
end
end MM
set_option Elab.async false
set_option maxRecDepth 100000
set_option maxHeartbeats 2000000
namespace MM
open PySem PySem.Spec PyProof.Rows L2
/-! ### the block's own slots -/
def wipeS (ρ : List S) : List Nat → List S
  | [] => ρ
  | v :: vs => (wipeS ρ vs).set v .un
def backW (ρ ρ0 : List S) : List Nat → List S
  | [] => ρ
  | v :: vs => (backW ρ ρ0 vs).set v (ρ0[v]?.getD .un)
/-- what stands there may be hidden for a while -/
def S.hid : S → Bool
  | .un => true
  | .d _ => true
  | _ => false
def hidOk (ρ : List S) (vs : List Nat) : Bool := vs.all fun v => match ρ[v]? with
  | some s => s.hid
  | none => false
theorem wipeS_get {ρ : List S} : ∀ {vs : List Nat} {j : Nat}, (wipeS ρ vs)[j]? = if j ∈ vs ∧ j < ρ.length then some .un else ρ[j]?
  | [], j => by simp [wipeS]
  | v :: vs, j => by
    unfold wipeS
    have len : (wipeS ρ vs).length = ρ.length := by
      clear j
      induction vs with
      | nil => rfl
      | cons u us ih => unfold wipeS; rw [List.length_set, ih]
    by_cases z : v = j
    · subst z
      by_cases hl : v < ρ.length
      · rw [List.getElem?_set_self (by rw [len]; exact hl), if_pos ⟨List.mem_cons_self, hl⟩]
      · rw [List.getElem?_eq_none (by rw [List.length_set, len]; omega), if_neg (fun h => hl h.2), List.getElem?_eq_none (by omega)]
    · rw [List.getElem?_set_ne z, wipeS_get]
      by_cases hm : j ∈ vs ∧ j < ρ.length
      · rw [if_pos hm, if_pos ⟨List.mem_cons_of_mem _ hm.1, hm.2⟩]
      · rw [if_neg hm, if_neg fun h => hm ⟨(List.mem_cons.mp h.1).resolve_left (Ne.symm z), h.2⟩]
theorem wipeS_length {ρ : List S} : ∀ {vs : List Nat}, (wipeS ρ vs).length = ρ.length
  | [] => rfl
  | v :: vs => by unfold wipeS; rw [List.length_set, wipeS_length]
theorem backW_length {ρ ρ0 : List S} : ∀ {vs : List Nat}, (backW ρ ρ0 vs).length = ρ.length
  | [] => rfl
  | v :: vs => by unfold backW; rw [List.length_set, backW_length]
theorem backW_get {ρ ρ0 : List S} : ∀ {vs : List Nat} {j : Nat}, (backW ρ ρ0 vs)[j]? = if j ∈ vs ∧ j < ρ.length then some (ρ0[j]?.getD .un) else ρ[j]?
  | [], j => by simp [backW]
  | v :: vs, j => by
    unfold backW
    by_cases z : v = j
    · subst z
      by_cases hl : v < ρ.length
      · rw [List.getElem?_set_self (by rw [backW_length]; exact hl), if_pos ⟨List.mem_cons_self, hl⟩]
      · rw [List.getElem?_eq_none (by rw [List.length_set, backW_length]; omega), if_neg (fun h => hl h.2), List.getElem?_eq_none (by omega)]
    · rw [List.getElem?_set_ne z, backW_get]
      by_cases hm : j ∈ vs ∧ j < ρ.length
      · rw [if_pos hm, if_pos ⟨List.mem_cons_of_mem _ hm.1, hm.2⟩]
      · rw [if_neg hm, if_neg fun h => hm ⟨(List.mem_cons.mp h.1).resolve_left (Ne.symm z), h.2⟩]
theorem wipe_get {σ : L2.St} : ∀ {vs : List Nat} {j : Nat}, (wipe σ vs)[j]? = if j ∈ vs ∧ j < σ.length then some none else σ[j]?
  | [], j => by simp [wipe]
  | v :: vs, j => by
    unfold wipe
    by_cases z : v = j
    · subst z
      by_cases hl : v < σ.length
      · rw [List.getElem?_set_self (by rw [wipe_length]; exact hl), if_pos ⟨List.mem_cons_self, hl⟩]
      · rw [List.getElem?_eq_none (by rw [List.length_set, wipe_length]; omega), if_neg (fun h => hl h.2), List.getElem?_eq_none (by omega)]
    · rw [List.getElem?_set_ne z, wipe_get]
      by_cases hm : j ∈ vs ∧ j < σ.length
      · rw [if_pos hm, if_pos ⟨List.mem_cons_of_mem _ hm.1, hm.2⟩]
      · rw [if_neg hm, if_neg fun h => hm ⟨(List.mem_cons.mp h.1).resolve_left (Ne.symm z), h.2⟩]
theorem wipe_wipe {σ : L2.St} {vs : List Nat} : wipe (wipe σ vs) vs = wipe σ vs := by
  apply List.ext_getElem?
  intro j
  rw [wipe_get, wipe_length]
  split
  · rename_i h
    rw [wipe_get, if_pos h]
  · rfl
theorem wipe_in {σ : L2.St} : ∀ {vs : List Nat} {j : Nat}, j ∈ vs → ∀ v, (wipe σ vs)[j]? ≠ some (some v)
  | [], _, h, _ => by cases h
  | u :: us, j, h, v => fun e => (wipe_some e).2 h
section
variable {G : GG} {g : Gh} {F F' H H' : Hp} {ρ ρ0 : List S} {σ : L2.St} {vs : List Nat}
theorem Good.noPar (I : Good G g F ρ σ H) (ok : hidOk ρ vs = true) : ∀ i a, g.P i = some a → i ∉ vs := fun i a h hv => by
  have := List.all_eq_true.mp ok i hv
  obtain ⟨⟨x, hx⟩, _⟩ := I.par i a h
  rw [hx] at this
  cases this
theorem Good.wiped (I : Good G g F ρ σ H) (hP : ∀ i a, g.P i = some a → i ∉ vs) : Good G g F (wipeS ρ vs) (wipe σ vs) H := by
  have at_ : ∀ (j : Nat) (s : S), (wipeS ρ vs)[j]? = some s → s ≠ .un → j ∉ vs ∧ ρ[j]? = some s ∧ (wipe σ vs)[j]? = σ[j]? := fun j s h n => by
    rw [wipeS_get] at h
    split at h
    · cases h
      exact absurd rfl n
    · rename_i hm
      have hl : j < ρ.length := (List.getElem?_eq_some_iff.mp h).1
      have hj : j ∉ vs := fun z => hm ⟨z, hl⟩
      exact ⟨hj, h, wipe_out hj⟩
  exact { len := by rw [wipe_length, wipeS_length]; exact I.len
          fh := I.fh
          f0 := I.f0
          keep := I.keep
          nt := I.nt
          tabs := I.tabs
          fresh := I.fresh
          dat := fun i x h => by
            obtain ⟨_, h1, e⟩ := at_ i _ h (fun z => by cases z)
            rw [e]
            exact I.dat i x h1
          obj := fun i x h => by
            obtain ⟨_, h1, e⟩ := at_ i _ h (fun z => by cases z)
            rw [e]
            exact I.obj i x h1
          prm := fun i x h => by
            obtain ⟨_, h1, e⟩ := at_ i _ h (fun z => by cases z)
            rw [e]
            exact I.prm i x h1
          par := fun i a h => by
            obtain ⟨⟨x, hx⟩, ho⟩ := I.par i a h
            refine ⟨⟨x, ?_⟩, ho⟩
            rw [wipeS_get, if_neg]
            · exact hx
            · exact fun z => hP i a h z.1
          apart := fun i j s t a hij h1 h2 h3 h4 => by
            have n1 : s ≠ .un := fun z => h3 (by rw [z]; rfl)
            have n2 : t ≠ .un := fun z => h4 (by rw [z]; rfl)
            obtain ⟨_, e1, e2⟩ := at_ i s h1 n1
            obtain ⟨_, e3, e4⟩ := at_ j t h2 n2
            rw [e2, e4]
            exact I.apart i j s t a hij e1 e3 h3 h4
          tmp := fun q hq => by
            obtain ⟨h2, h3, h4, h5⟩ := I.tmp q hq
            refine ⟨h2, h3, h4, fun i s hi hs => ?_⟩
            obtain ⟨_, e1, e2⟩ := at_ i s hi (fun z => hs (by rw [z]; rfl))
            rw [e2]
            exact h5 i s e1 hs }
/-- behind the block -/
theorem Good.unwiped (I0 : Good G g F ρ0 σ H) (ok : hidOk ρ0 vs = true) (s : Same F F') (I : Good G g F' ρ (wipe σ vs) H') : Good G g F' (backW ρ ρ0 vs) σ H' := by
  have hid : ∀ v ∈ vs, ∃ s, ρ0[v]? = some s ∧ s.hid = true := fun v hv => by
    have := List.all_eq_true.mp ok v hv
    cases q : ρ0[v]? with
    | none => rw [q] at this; cases this
    | some s => rw [q] at this; exact ⟨s, rfl, this⟩
  have len : ρ.length = ρ0.length := by
    have := I.len
    rw [wipe_length, I0.len] at this
    exact this.symm
  have at_ : ∀ (j : Nat) (s : S), (backW ρ ρ0 vs)[j]? = some s → (j ∈ vs ∧ ρ0[j]? = some s ∧ s.hid = true) ∨ (j ∉ vs ∧ ρ[j]? = some s ∧ (wipe σ vs)[j]? = σ[j]?) := fun j s h => by
    rw [backW_get] at h
    split at h
    · rename_i hm
      obtain ⟨t, ht, hh⟩ := hid j hm.1
      rw [ht] at h
      cases h
      exact .inl ⟨hm.1, ht, hh⟩
    · rename_i hm
      have hl : j < ρ.length := (List.getElem?_eq_some_iff.mp h).1
      have hj : j ∉ vs := fun z => hm ⟨z, hl⟩
      exact .inr ⟨hj, h, wipe_out hj⟩
  have own : ∀ (j : Nat) (s : S), (backW ρ ρ0 vs)[j]? = some s → s.own ≠ none → ρ[j]? = some s ∧ (wipe σ vs)[j]? = σ[j]? := fun j s h n => by
    rcases at_ j s h with ⟨_, _, hh⟩ | ⟨_, e1, e2⟩
    · cases s with
      | un => exact absurd rfl n
      | d _ => exact absurd rfl n
      | o _ => cases hh
      | p _ => cases hh
    · exact ⟨e1, e2⟩
  exact { len := by rw [backW_length, len]; exact I0.len
          fh := I.fh
          f0 := I.f0
          keep := I.keep
          nt := I.nt
          tabs := I.tabs
          fresh := I.fresh
          dat := fun i x h => by
            rcases at_ i _ h with ⟨_, e, _⟩ | ⟨_, e1, e2⟩
            · obtain ⟨v, h1, h2⟩ := I0.dat i x e
              exact ⟨v, h1, h2.mono s⟩
            · rw [← e2]
              exact I.dat i x e1
          obj := fun i x h => by
            obtain ⟨e1, e2⟩ := own i _ h (by simp [S.own])
            rw [← e2]
            exact I.obj i x e1
          prm := fun i x h => by
            obtain ⟨e1, e2⟩ := own i _ h (by simp [S.own])
            rw [← e2]
            exact I.prm i x e1
          par := fun i a h => by
            obtain ⟨⟨x, hx⟩, ho⟩ := I.par i a h
            refine ⟨⟨x, ?_⟩, ho⟩
            rw [backW_get, if_neg]
            · exact hx
            · intro z
              obtain ⟨b, e1, _⟩ := I.prm i x hx
              exact wipe_in z.1 _ e1
          apart := fun i j s t a hij h1 h2 h3 h4 => by
            obtain ⟨e1, e2⟩ := own i s h1 h3
            obtain ⟨e3, e4⟩ := own j t h2 h4
            rw [← e2, ← e4]
            exact I.apart i j s t a hij e1 e3 h3 h4
          tmp := fun q hq => by
            obtain ⟨h2, h3, h4, h5⟩ := I.tmp q hq
            refine ⟨h2, h3, h4, fun i s hi hs => ?_⟩
            obtain ⟨e1, e2⟩ := own i s hi hs
            rw [← e2]
            exact h5 i s e1 hs }
end
/-! ### a list comprehension of one clause -/
def R.calm {α : Type} : R α → R α
  | .ok a ρ => .ok a ρ
  | _ => .bad
def lcM (t : Tg) (vs : List Nat) (tt : List S → R Bool) (f : Ex) : List D → List S → R (List D)
  | [], ρ => .ok [] ρ
  | x :: r, ρ => match t.put x ρ with
    | none => .bad
    | some ρ1 => (tt ρ1).bind fun b ρ2 => if b = true then (mForce f ρ2).bind fun y ρ3 => (lcM t vs tt f r (wipeS ρ3 vs)).bind fun ys ρ4 => .ok (y :: ys) ρ4
      else lcM t vs tt f r (wipeS ρ2 vs)
def mLc (it : List S → R (List D)) (t : Tg) (vs : List Nat) (tt : List S → R Bool) (f : Ex) : Ex := fun ρ => (it ρ).bind fun items ρ1 => if hidOk ρ1 vs = true then (lcM t vs tt f items (wipeS ρ1 vs)).calm.bind fun ys ρ2 => if ys.length ≤ sizeLine then .ok (.f (.lst ys)) (backW ρ2 ρ1 vs) else .bad else .bad
def WF : WX := fun _ _ _ _ => False
theorem R.calm_ok {α : Type} {r : R α} {a : α} {ρ : List S} (h : r.calm = .ok a ρ) : r = .ok a ρ := by
  cases r with
  | ok b ρ' => exact h
  | ex e ρ' => cases h
  | bad => cases h
abbrev MTs (X : Cx) (G : GG) (g : Gh) (W : WX) (ifs : List Expr) (f : List S → R Bool) : Prop := PTs X ifs (tMT G g W f)
def mYes : List S → R Bool := fun ρ => .ok true ρ
def tMTX (G : GG) (W : WX) (f : List S → R Bool) : TT := fun σ H Q => ∃ g, tMT G g W f σ H Q
def tMGX (G : GG) (t : Tg) : TG := fun v σ H Q => ∃ g, tMG G g t v σ H Q
def tMDX (G : GG) (W : WX) (f : List S → R D) : TE := fun σ H Q => ∃ g, tMD G g W f σ H Q
section
variable {X : Cx} {G : GG} {g : Gh} {W : WX} {pos p apos : Pos}
theorem mts_nil : MTs X G g W [] mYes := ⟨fun pins s σ H Q I ⟨F, ρ, J, k⟩ => (pts_nil (X := X)).run pins s σ H Q I (k F H (.refl _) J)⟩
theorem mts_one {c : Expr} {f : List S → R Bool} (h : MT X G g W c f) : MTs X G g W [c] f := pts_one h
theorem lc_go {it : List S → R (List D)} {t : Tg} {vs : List Nat} {tt : List S → R Bool} {f : Ex} (ht : ∀ i ∈ t.ixs, i ∈ vs) {σ : L2.St} {H : Hp} {Q : VK} (k : tM G g W (mLc it t vs tt f) σ H Q) :
    tLc (tMI G g W it) (tMGX G t) (tMTX G WF tt) (tMDX G WF (mForce f)) vs σ H Q := by
  obtain ⟨F, ρ, I, k⟩ := k
  refine ⟨F, ρ, I, k.bind.imp fun F0 H0 ρ0 items s0 I0 k0 J hJ D nD => ?_⟩
  split at k0
  case isFalse => exact k0.elim
  rename_i ok
  -- the new list
  cases qr : lcM t vs tt f items (wipeS ρ0 vs) with
  | bad => rw [qr] at k0; exact k0.elim
  | ex _ _ => rw [qr] at k0; exact k0.elim
  | ok ys ρe =>
    rw [qr] at k0
    have k0 : Post G g W F0 σ (if ys.length ≤ sizeLine then R.ok (RV.f (.lst ys)) (backW ρe ρ0 vs) else .bad) _ := k0
    split at k0
    case isFalse => exact k0.elim
    rename_i hz
    have nF0 : F0 D = none := I0.fh.free nD
    obtain ⟨w1, w2, w3⟩ := newp I0 (.of nD)
    have st0 : Step F0 H0 F0 (upd H0 D (.lst [])) := Step.new I0.fh nD
    have hP := I0.noPar ok
    have I1 := (I0.step st0).wiped (vs := vs) hP
    have own1 : ∀ (i : Nat) (s : S), (wipeS ρ0 vs)[i]? = some s → s.own ≠ none → (wipe σ vs)[i]? ≠ some (some (V.ref D)) := fun i s hi hs e => by
      rw [wipeS_get] at hi
      split at hi
      · cases hi
        exact hs rfl
      · exact w2 i s hi hs (wipe_some e).1
    have J0 : Good G (g.addT (D, .lst [])) F0 (wipeS ρ0 vs) (wipe σ vs) (upd H0 D (.lst [])) := I1.addT nF0 w1 ⟨[], upd_same, .nil⟩ own1
    refine ⟨fun i m H => m = items.length - i ∧ i ≤ items.length ∧ ∃ F1 ρ1 acc rest, Same F0 F1 ∧ Good G (g.addT (D, .lst acc)) F1 ρ1 (wipe σ vs) H ∧ lcM t vs tt f (items.drop i) ρ1 = .ok rest ρe ∧ acc ++ rest = ys,
      ⟨items.length, by simp, Nat.zero_le _, F0, _, [], ys, .refl _, J0, qr, rfl⟩, ?_⟩
    rintro i m H1 ⟨rfl, hi, F1, ρ1, acc, rest, s1, Ja, er, ey⟩
    have hF1 : Same F1 H1 := Ja.fh
    by_cases hlt : i < items.length
    · refine .inr ⟨hJ.go F1 H1 i s1 hF1 hlt, fun H' => ∃ F2 ρ2 acc2 rest2, Same F0 F2 ∧ Good G (g.addT (D, .lst acc2)) F2 ρ2 (wipe σ vs) H' ∧ lcM t vs tt f (items.drop (i + 1)) ρ2 = .ok rest2 ρe ∧ acc2 ++ rest2 = ys,
        fun H' h => ⟨items.length - (i + 1), by omega, rfl, hlt, h⟩, fun v H2 y => ?_⟩
      obtain ⟨F2, x, st, hx, r⟩ := hJ.yld F1 H1 i v H2 s1 hF1 y hlt
      have Jb := Ja.step st
      rw [List.drop_eq_getElem_cons hlt] at er
      have ex : items[i] = x := by
        rw [List.getElem?_eq_getElem hlt] at hx
        exact Option.some.inj hx
      rw [ex] at er
      unfold lcM at er
      cases q : t.put x ρ1 with
      | none => rw [q] at er; cases er
      | some ρ2 =>
        rw [q] at er
        dsimp only at er
        refine ⟨_, F2, ρ1, x, ρ2, Jb, r, q, fun σ2 Jc wq => ⟨?_, ?_⟩⟩
        · rw [wq vs ht, wipe_wipe]
        · cases q2 : tt ρ2 with
          | bad => rw [q2] at er; cases er
          | ex _ _ => rw [q2] at er; cases er
          | ok b ρ3 =>
            rw [q2] at er
            have er : (if b = true then (mForce f ρ3).bind fun y ρ3 => (lcM t vs tt f (items.drop (i + 1)) (wipeS ρ3 vs)).bind fun ys ρ4 => R.ok (y :: ys) ρ4
              else lcM t vs tt f (items.drop (i + 1)) (wipeS ρ3 vs)) = R.ok rest ρe := er
            have wσ : wipe σ2 vs = wipe σ vs := by rw [wq vs ht, wipe_wipe]
            refine ⟨g.addT (D, .lst acc), F2, ρ2, Jc, ?_⟩
            rw [q2]
            intro F3 H3 s3 Jd
            cases b with
            | false =>
              rw [if_neg Bool.false_ne_true] at er ⊢
              have Je := Jd.wiped (vs := vs) hP
              rw [wσ] at Je
              exact ⟨F3, _, acc, rest, (s1.trans st.ff).trans s3, Je, er, ey⟩
            | true =>
              rw [if_pos rfl] at er ⊢
              cases q3 : mForce f ρ3 with
              | bad => rw [q3] at er; cases er
              | ex _ _ => rw [q3] at er; cases er
              | ok y ρ4 =>
                rw [q3] at er
                have er : ((lcM t vs tt f (items.drop (i + 1)) (wipeS ρ4 vs)).bind fun ys ρ5 => R.ok (y :: ys) ρ5) = R.ok rest ρe := er
                cases q4 : lcM t vs tt f (items.drop (i + 1)) (wipeS ρ4 vs) with
                | bad => rw [q4] at er; cases er
                | ex _ _ => rw [q4] at er; cases er
                | ok ys' ρ5 =>
                  rw [q4] at er
                  cases er
                  refine ⟨g.addT (D, .lst acc), F3, ρ3, Jd, ?_⟩
                  rw [q3]
                  intro F4 H4 s4 Je u ru
                  obtain ⟨nF, ⟨xs, hx1, hx2⟩, h0, ap⟩ := Je.headT
                  have hlen : xs.length = acc.length := hx2.length
                  have hsz : acc.length + (ys'.length + 1) = ys.length := by rw [← ey]; simp
                  refine ⟨xs, hx1, by omega, F4, wipeS ρ4 vs, acc ++ [y], ys', ((s1.trans st.ff).trans s3).trans s4, ?_, q4, by rw [← ey]; simp⟩
                  have ow : OwnAt G F4 (upd H4 D (.lst (xs ++ [u]))) D (.lst (acc ++ [y])) := ⟨_, upd_same, hx2.append (.ones ru)⟩
                  have Jf := (Je.changeT w3 ow).wiped (vs := vs) hP
                  rw [wσ] at Jf
                  exact Jf
    · have e : items.drop i = [] := List.drop_eq_nil_of_le (by omega)
      rw [e] at er
      cases er
      refine .inl ⟨hJ.stop F1 H1 i s1 hF1 (by omega), ?_⟩
      rw [List.append_nil] at ey
      subst ey
      obtain ⟨nF, ow, h0, ap⟩ := Ja.headT
      have Ie := I0.unwiped ok s1 Ja.dropT
      refine k0 F1 H1 s1 Ie _ ⟨D, rfl, nF, h0, ow, fun i s hi hs => ?_, w3⟩
      rw [backW_get] at hi
      split at hi
      · rename_i hm
        have := List.all_eq_true.mp ok i hm.1
        cases q : ρ0[i]? with
        | none => rw [q] at this; cases this
        | some s' =>
          rw [q] at this hi
          cases hi
          intro _
          cases s' with
          | un => exact hs rfl
          | d _ => exact hs rfl
          | o _ => cases this
          | p _ => cases this
      · rename_i hm
        have hl : i < ρe.length := (List.getElem?_eq_some_iff.mp hi).1
        have hj : i ∉ vs := fun z => hm ⟨z, hl⟩
        have z := ap i s hi hs
        rw [wipe_out hj] at z
        exact z
theorem pg_ex {e : Expr} {t : Tg} (h : ∀ g, MG X G g e t) : PG X e (tMGX G t) := ⟨fun pins s σ H v u Q I r ⟨g, w⟩ => (h g).run pins s σ H v u Q I r w⟩
theorem pts_ex {ifs : List Expr} {f : List S → R Bool} (h : ∀ g, MTs X G g W ifs f) : PTs X ifs (tMTX G W f) := ⟨fun pins s σ H Q I ⟨g, w⟩ => (h g).run pins s σ H Q I w⟩
theorem pd_ex {e : Expr} {f : Ex} (h : ∀ g, ME X G g W e f) : PE X e (tMDX G W (mForce f)) := ⟨fun pins s σ H Q I ⟨g, w⟩ => (me_force (h g)).run pins s σ H Q I w⟩
theorem me_lc {elt tg iter : Expr} {ifs : List Expr} {scope : Scope} {own : List (Str × Nat)} {it : List S → R (List D)} {t : Tg} {tt : List S → R Bool} {f : Ex} (hc : X.calm = true) (hN : X.N.Nodup) (hi : MI X G g W tg iter it) (ok : BlkOk X.N X.env.scope scope own)
    (hg : ∀ (s : Shared) (H : Hp) (C : Addr) (cl : List (Str × Addr)) (fp : List Addr) (g : Gh), MG (X.blk s H scope (compEnvC scope cl C X.env) fp) G g tg t) (ht : ∀ (s : Shared) (H : Hp) (C : Addr) (cl : List (Str × Addr)) (fp : List Addr) (g : Gh), MTs (X.blk s H scope (compEnvC scope cl C X.env) fp) G g WF ifs tt)
    (he : ∀ (s : Shared) (H : Hp) (C : Addr) (cl : List (Str × Addr)) (fp : List Addr) (g : Gh), ME (X.blk s H scope (compEnvC scope cl C X.env) fp) G g WF elt f) (hv : ∀ i ∈ t.ixs, i ∈ own.map (·.2)) (hs : ∀ x, foldedSetIterable iter X.env x = pure x := by intro _; rfl) :
    ME X G g W (.ListComp elt [⟨tg, iter, ifs, 0⟩] scope pos) (mLc it t (own.map (·.2)) tt f) :=
  pe_imp (pe_lc hc hN hi ok (fun s H C cl fp => pg_ex (hg s H C cl fp)) (fun s H C cl fp => pts_ex (ht s H C cl fp)) (fun s H C cl fp => pd_ex (he s H C cl fp)) hs) fun _ _ _ => lc_go hv
theorem ms_setLc {i : Nat} {y : Str} {py spos : Pos} {elt tg iter : Expr} {ifs : List Expr} {scope : Scope} {own : List (Str × Nat)} {it : List S → R (List D)} {t : Tg} {tt : List S → R Bool} {f : Ex} (hc : X.calm = true) (hN : X.N.Nodup) (hy : X.N[i]? = some y) (hyl : X.env.scope.names.lookup y = some .local)
    (hsw : swapsWith (.ListComp elt [⟨tg, iter, ifs, 0⟩] scope pos) (some (.Name y py)) spos.line X.env = pure true) (hi : MI X G g W tg iter it) (ok : BlkOk X.N X.env.scope scope own)
    (hg : ∀ (s : Shared) (H : Hp) (C : Addr) (cl : List (Str × Addr)) (fp : List Addr) (g : Gh), MG (X.blk s H scope (compEnvC scope cl C X.env) fp) G g tg t) (ht : ∀ (s : Shared) (H : Hp) (C : Addr) (cl : List (Str × Addr)) (fp : List Addr) (g : Gh), MTs (X.blk s H scope (compEnvC scope cl C X.env) fp) G g WF ifs tt)
    (he : ∀ (s : Shared) (H : Hp) (C : Addr) (cl : List (Str × Addr)) (fp : List Addr) (g : Gh), ME (X.blk s H scope (compEnvC scope cl C X.env) fp) G g WF elt f) (hv : ∀ i ∈ t.ixs, i ∈ own.map (·.2)) (hs : ∀ x, foldedSetIterable iter X.env x = pure x := by intro _; rfl) :
    MS X G g W (.Assign [.Name y py] (.ListComp elt [⟨tg, iter, ifs, 0⟩] scope pos) spos) (sSet i (mLc it t (own.map (·.2)) tt f)) :=
  ps_imp (ps_setLc hc hN hy hyl hsw hi ok (fun s H C cl fp => pg_ex (hg s H C cl fp)) (fun s H C cl fp => pts_ex (ht s H C cl fp)) (fun s H C cl fp => pd_ex (he s H C cl fp)) hs) fun D σ H k => lc_go hv (set_go k)
end
end MM
set_option Elab.async false
set_option maxRecDepth 100000
set_option maxHeartbeats 2000000
namespace MM
open PySem PySem.Spec PyProof.Rows L2
/-! ### what a value is, by its data -/
section
variable {G : GG} {F H : Hp} {v : V}
theorem T_int {i : Int} (r : RepT G F H v (.int i)) : v = .int i := by
  rcases r with r | ⟨a, rfl, ow⟩
  · cases r; rfl
  · exact ow.elim
theorem T_bl {b : Bool} (r : RepT G F H v (.bl b)) : v = .bl b := by
  rcases r with r | ⟨a, rfl, ow⟩
  · cases r; rfl
  · exact ow.elim
theorem T_non (r : RepT G F H v .non) : v = .non := by
  rcases r with r | ⟨a, rfl, ow⟩
  · cases r; rfl
  · exact ow.elim
theorem T_str {l : List Nat} (r : RepT G F H v (.str l)) : ∃ z : Str, v = .str z ∧ z.cps.toList = l := by
  rcases r with r | ⟨a, rfl, ow⟩
  · cases r with
    | str h => exact ⟨_, rfl, h⟩
  · exact ow.elim
theorem T_lst {l : List D} (s : Same F H) (r : RepT G F H v (.lst l)) : ∃ a xs, v = .ref a ∧ H a = some (.lst xs) ∧ RepA G F xs l := by
  rcases r with r | ⟨a, rfl, ow⟩
  · cases r with
    | lst h ra => exact ⟨_, _, rfl, s _ _ h, ra⟩
  · obtain ⟨xs, h, ra⟩ := ow
    exact ⟨a, xs, rfl, h, ra⟩
theorem T_ro {l : List D} (s : Same F H) (r : RepT G F H v (.ro l)) : ∃ a xs, v = .ref a ∧ SqL G.K H a xs ∧ RepA G F xs l := by
  rcases r with r | ⟨a, rfl, ow⟩
  · cases r with
    | ro h ra => exact ⟨_, _, rfl, s.seq h, ra⟩
  · exact ow.elim
theorem T_tup {l : List D} (s : Same F H) (r : RepT G F H v (.tup l)) : ∃ a xs, v = .ref a ∧ SqT G.K H a xs ∧ RepA G F xs l := by
  rcases r with r | ⟨a, rfl, ow⟩
  · cases r with
    | tup h ra => exact ⟨_, _, rfl, sqT_same s h, ra⟩
  · exact ow.elim
theorem T_dic {l : List (Key × D)} (s : Same F H) (r : RepT G F H v (.dic l)) : ∃ a kvs, v = .ref a ∧ H a = some (.dK kvs) ∧ RepK G F kvs l := by
  rcases r with r | ⟨a, rfl, ow⟩
  · cases r with
    | dic h ra => exact ⟨_, _, rfl, s _ _ h, ra⟩
  · obtain ⟨xs, h, ra⟩ := ow
    exact ⟨a, xs, rfl, h, ra⟩
theorem str_len {z : Str} {l : List Nat} (h : z.cps.toList = l) : z.length = l.length := by
  rw [← h]
  rfl
theorem str_app {y z : Str} {l m : List Nat} (h : y.cps.toList = l) (k : z.cps.toList = m) : (y ++ z).cps.toList = l ++ m := by
  rw [← h, ← k]
  show (y.cps ++ z.cps).toList = _
  simp
/-- a new list, frozen or not, as an operation leaves it -/
theorem new_f {Q : VK} {l : List D} {xs : List V} (s : Same F H) (ra : RepA G F xs l) (k : ∀ F' H' w, Step F H F' H' → RepO G H F' H' w (.f (.lst l)) → Q w H') : ∀ p, H p = none → Q (.ref p) (upd H p (.lst xs)) := fun p n =>
  k F _ _ (Step.new s n) ⟨p, rfl, .of n, s.free n, xs, upd_same, ra⟩
theorem new_t {Q : VK} {l : List D} {xs : List V} (s : Same F H) (ra : RepA G F xs l) (k : ∀ F' H' w, Step F H F' H' → RepO G H F' H' w (.d (.tup l)) → Q w H') : ∀ p, H p = none → Q (.ref p) (upd H p (.tup xs)) := fun p n => by
  have st := Step.frozen (o := .tup xs) s n
  exact k _ _ _ st (.tup (.of upd_same) (ra.mono st.ff))
end
theorem opr_of {X : Cx} {f : Value → Value → Sem Value} {r r' : R2} (h : OpR X f r) (i : ∀ v u H Q, r' v u H Q → r v u H Q) : OpR X f r' := fun pins s σ H x y v u Q I rx ry q => h pins s σ H x y v u Q I rx ry (i _ _ _ _ q)
theorem unr_of {X : Cx} {f : Value → Sem Value} {r r' : V → Hp → VK → Prop} (h : UnR X f r) (i : ∀ v H Q, r' v H Q → r v H Q) : UnR X f r' := fun pins s σ H x v Q I rx q => h pins s σ H x v Q I rx (i _ _ _ q)
theorem callr_of {X : Cx} {f : Value} {r r' : List V → Hp → VK → Prop} (h : CallR X f r) (i : ∀ vs H Q, r' vs H Q → r vs H Q) : CallR X f r' := fun pins s σ H xs us Q I rx q => h pins s σ H xs us Q I rx (i _ _ _ q)
section
variable {X : Cx} {G : GG}
/-! ### + - * // % ** -/
def addD : D → D → Option RV
  | .int i, .int j => some (.d (.int (i + j)))
  | .int i, .bl k => some (.d (.int (i + b2i k)))
  | .str a, .str b => if a.length + b.length ≤ sizeLine then some (.d (.str (a ++ b))) else none
  | .lst a, .lst b => if a.length + b.length ≤ sizeLine then some (.f (.lst (a ++ b))) else none
  | .tup a, .tup b => if a.length + b.length ≤ sizeLine then some (.d (.tup (a ++ b))) else none
  | _, _ => none
theorem RepA.nil_iff {F : Hp} {xs : List V} {l : List D} (r : RepA G F xs l) : xs = [] ↔ l = [] := by
  cases r <;> simp
theorem o_add (hK : X.K = G.K) : OpR X (binaryOp .Add) (rD G addD) := by
  refine opr_of (op_add.or (op_add_ib.or (op_add_str.or (op_cat.or op_catA)))) fun v u H Q ⟨F, x, y, rv, s, rx, ry, e, k⟩ => ?_
  have fin : ∀ {w : V} {z : D}, rv = .d z → Rep G F w z → Q w H := fun {w z} e r => by
    subst e
    exact k F H w (.refl s) r
  unfold addD at e
  split at e
  · cases e
    cases T_int rx
    cases T_int ry
    exact .inl ⟨_, _, rfl, rfl, fin rfl (.int _)⟩
  · cases e
    cases T_int rx
    cases T_bl ry
    exact .inr (.inl ⟨_, _, rfl, rfl, fin rfl (.int _)⟩)
  · split at e
    · rename_i hz
      cases e
      obtain ⟨y1, rfl, h1⟩ := T_str rx
      obtain ⟨y2, rfl, h2⟩ := T_str ry
      exact .inr (.inr (.inl ⟨_, _, rfl, rfl, by rw [str_len h1, str_len h2]; exact hz, fin rfl (.str (str_app h1 h2))⟩))
    · cases e
  · split at e
    · rename_i hz
      cases e
      obtain ⟨a, xs, rfl, h1, r1⟩ := T_lst s rx
      obtain ⟨b, ys, rfl, h2, r2⟩ := T_lst s ry
      exact .inr (.inr (.inr (.inl ⟨a, b, xs, ys, rfl, rfl, h1, h2, by rw [r1.length, r2.length]; exact hz, new_f s (r1.append r2) k⟩)))
    · cases e
  · split at e
    · rename_i l m hz
      cases e
      obtain ⟨a, xs, rfl, h1, r1⟩ := T_tup s rx
      obtain ⟨b, ys, rfl, h2, r2⟩ := T_tup s ry
      rw [← hK] at h1 h2
      refine .inr (.inr (.inr (.inr ⟨a, b, xs, ys, rfl, rfl, h1, h2, by rw [r1.length, r2.length]; exact hz, fun hx => ?_, fun _ hy => ?_, fun _ _ => new_t s (r1.append r2) k⟩)))
      · have e1 := r1.nil_iff.mp hx
        subst e1
        refine fin rfl ?_
        rcases ry with r | ⟨_, _, ow⟩
        · exact r
        · exact ow.elim
      · have e1 := r2.nil_iff.mp hy
        subst e1
        refine fin rfl ?_
        rw [List.append_nil]
        rcases rx with r | ⟨_, _, ow⟩
        · exact r
        · exact ow.elim
    · cases e
  · cases e
def subD : D → D → Option RV
  | .int i, .int j => some (.d (.int (i - j)))
  | _, _ => none
theorem int2 {f : Value → Value → Sem Value} {C : Int → Int → Prop} {g : Int → Int → Int} {od : D → D → Option RV} (h : OpR X f (rI C fun i j => .int (g i j))) (e : ∀ x y rv, od x y = some rv → ∃ i j, x = .int i ∧ y = .int j ∧ C i j ∧ rv = .d (.int (g i j))) : OpR X f (rD G od) :=
  opr_of h fun v u H Q ⟨F, x, y, rv, s, rx, ry, eq, k⟩ => by
    obtain ⟨i, j, rfl, rfl, hc, rfl⟩ := e _ _ _ eq
    cases T_int rx
    cases T_int ry
    exact ⟨i, j, rfl, rfl, hc, k F H _ (.refl s) (.int _)⟩
theorem int20 {f : Value → Value → Sem Value} {g : Int → Int → Int} {od : D → D → Option RV} (h : OpR X f (rI0 fun i j => .int (g i j))) (e : ∀ x y rv, od x y = some rv → ∃ i j, x = .int i ∧ y = .int j ∧ rv = .d (.int (g i j))) : OpR X f (rD G od) :=
  opr_of h fun v u H Q ⟨F, x, y, rv, s, rx, ry, eq, k⟩ => by
    obtain ⟨i, j, rfl, rfl, rfl⟩ := e _ _ _ eq
    cases T_int rx
    cases T_int ry
    exact ⟨i, j, rfl, rfl, k F H _ (.refl s) (.int _)⟩
theorem sub_inv (x y : D) (rv : RV) (h : subD x y = some rv) : ∃ i j, x = .int i ∧ y = .int j ∧ rv = .d (.int (i - j)) := by
  unfold subD at h
  split at h
  · cases h; exact ⟨_, _, rfl, rfl, rfl⟩
  · cases h
theorem o_sub : OpR X (binaryOp .Sub) (rD G subD) := int20 op_sub sub_inv
theorem io_sub : OpR X (inplaceOp .Sub) (rD G subD) := int20 iop_sub sub_inv
def addI : D → D → Option RV
  | .int i, .int j => some (.d (.int (i + j)))
  | .str a, .str b => if a.length + b.length ≤ sizeLine then some (.d (.str (a ++ b))) else none
  | _, _ => none
theorem io_add : OpR X (inplaceOp .Add) (rD G addI) := by
  refine opr_of (iop_add.or iop_add_str) fun v u H Q ⟨F, x, y, rv, s, rx, ry, e, k⟩ => ?_
  unfold addI at e
  split at e
  · cases e
    cases T_int rx
    cases T_int ry
    exact .inl ⟨_, _, rfl, rfl, k F H _ (.refl s) (.int _)⟩
  · split at e
    · rename_i hz
      cases e
      obtain ⟨y1, rfl, h1⟩ := T_str rx
      obtain ⟨y2, rfl, h2⟩ := T_str ry
      exact .inr ⟨_, _, rfl, rfl, by rw [str_len h1, str_len h2]; exact hz, k F H _ (.refl s) (.str (str_app h1 h2))⟩
    · cases e
  · cases e
/-- factors that the model multiplies -/
def mulOk (i j : Int) : Bool := decide (i.natAbs.log2 + j.natAbs.log2 < 1000000)
def repL {α : Type} (n : Nat) (l : List α) : List α := (List.replicate n l).flatten
theorem repL_length {α : Type} (l : List α) : ∀ n : Nat, (repL n l).length = n * l.length
  | 0 => by simp [repL]
  | n + 1 => by
    have ih := repL_length l n
    unfold repL at ih ⊢
    rw [List.replicate_succ, List.flatten_cons, List.length_append, ih, Nat.succ_mul, Nat.add_comm]
def mulD : D → D → Option RV
  | .int i, .int j => if mulOk i j = true then some (.d (.int (i * j))) else none
  | .str l, .int k => if l.length * k.toNat ≤ sizeLine ∧ k ≤ 16777216 ∧ -(2 ^ 63) ≤ k then some (.d (.str (repL k.toNat l))) else none
  | .lst l, .int k => if l.length * k.toNat ≤ sizeLine ∧ k < 2 ^ 63 ∧ -(2 ^ 63) ≤ k then some (.f (.lst (repL k.toNat l))) else none
  | .tup l, .int k => if l ≠ [] ∧ 2 ≤ k ∧ k ≤ 1000 ∧ l.length ≤ 1000 then some (.d (.tup (repL k.toNat l))) else none
  | _, _ => none
theorem RepA.rep {F : Hp} {xs : List V} {l : List D} (r : RepA G F xs l) : ∀ n : Nat, RepA G F (repL n xs) (repL n l)
  | 0 => .nil
  | n + 1 => by
    unfold repL
    rw [List.replicate_succ, List.replicate_succ, List.flatten_cons, List.flatten_cons]
    exact r.append (r.rep n)
theorem foldl_app {α : Type} : ∀ (ls : List (Array α)) (acc : Array α), (ls.foldl (· ++ ·) acc).toList = acc.toList ++ (ls.map Array.toList).flatten
  | [], acc => by simp
  | a :: ls, acc => by
    rw [List.foldl_cons, foldl_app ls, List.map_cons, List.flatten_cons]
    simp
theorem rep_str (z : Str) (n : Nat) : ((List.replicate n z.cps).foldl (fun x1 x2 => x1 ++ x2) #[]).toList = repL n z.cps.toList := by
  rw [foldl_app]
  simp [repL, List.map_replicate]
theorem o_mulS : OpR X (binaryOp .Mult) (fun v u H Q => ∃ (z : Str) (k : Int), v = .str z ∧ u = .int k ∧ z.length * k.toNat ≤ sizeLine ∧ k ≤ 16777216 ∧ -(2 ^ 63) ≤ k ∧ ∀ w : Str, w.cps.toList = repL k.toNat z.cps.toList → Q (.str w) H) := by
  intro pins s σ H x y v u Q I rx ry h
  obtain ⟨z, k, rfl, rfl, h1, h2, h3, q⟩ := h
  obtain ⟨t, rfl⟩ := rx
  obtain ⟨t', rfl⟩ := ry
  have hs : sizeLine = 16777216 := sizeLine_eq
  have h1' : z.length * k.toNat ≤ 16777216 := by rw [← hs]; exact h1
  refine PySem.P.mul_str ?_ (fun hk hx => ?_) (fun hk hx => ?_) ?_
  · have e1 : decide (k < -(2 ^ 63 : Int)) = false := decide_eq_false (by omega)
    have e2 : decide (k ≥ 2 ^ 63) = false := decide_eq_false (by omega)
    rw [e1, e2]; rfl
  · have hz : z.length ≤ 16777216 := by
      have k1 : 1 ≤ k.toNat := by omega
      have := Nat.le_mul_of_pos_right z.length k1
      omega
    intro hgt
    have k0 : 0 < k := by omega
    have : (16777216 : Int) ≤ (2 ^ 63 - 1) / k := by
      rw [Int.le_ediv_iff_mul_le k0]
      omega
    omega
  · exact decide_eq_false (by omega)
  · split
    · rename_i hk
      refine ⟨by decide, .str Str.empty, H, I.tok _, ⟨_, rfl⟩, q _ ?_⟩
      have : k.toNat = 0 := by omega
      rw [this]
      rfl
    · rename_i hk
      split
      · rename_i hx
        refine ⟨.str z, H, I, ⟨_, rfl⟩, q _ ?_⟩
        rcases Bool.or_eq_true_iff.mp hx with e | e
        · have : k = 1 := beq_iff_eq.mp e
          subst this
          simp [repL]
        · have e0 : z.length = 0 := beq_iff_eq.mp e
          have e1 : z.cps.toList = [] := List.eq_nil_of_length_eq_zero e0
          rw [e1]
          unfold repL
          induction k.toNat with
          | zero => rfl
          | succ n ih => rw [List.replicate_succ, List.flatten_cons, ← ih]; rfl
      · refine ⟨?_, .str _, H, I.tok _, ⟨_, rfl⟩, q _ (rep_str z _)⟩
        have e : (⟨List.foldl (fun x1 x2 => x1 ++ x2) #[] (List.replicate k.toNat z.cps)⟩ : Str).length = z.length * k.toNat := by
          show (List.foldl (fun x1 x2 => x1 ++ x2) #[] (List.replicate k.toNat z.cps)).size = _
          rw [← Array.length_toList, rep_str]
          rw [repL_length, Nat.mul_comm]
          rfl
        rw [e]
        exact h1
theorem o_mul (hK : X.K = G.K) : OpR X (binaryOp .Mult) (rD G mulD) := by
  refine opr_of (op_mulW.or (o_mulS.or (op_rep.or op_repT))) fun v u H Q ⟨F, x, y, rv, s, rx, ry, e, k⟩ => ?_
  unfold mulD at e
  split at e
  · split at e
    · rename_i i j hz
      cases e
      cases T_int rx
      cases T_int ry
      exact .inl ⟨i, j, rfl, rfl, of_decide_eq_true (p := i.natAbs.log2 + j.natAbs.log2 < 1000000) hz, k F H _ (.refl s) (.int _)⟩
    · cases e
  · split at e
    · rename_i l n hz
      cases e
      obtain ⟨z, rfl, h1⟩ := T_str rx
      cases T_int ry
      exact .inr (.inl ⟨z, n, rfl, rfl, by rw [str_len h1]; exact hz.1, hz.2.1, hz.2.2, fun w hw => k F H _ (.refl s) (.str (by rw [hw, h1]))⟩)
    · cases e
  · split at e
    · rename_i l n hz
      cases e
      obtain ⟨a, xs, rfl, h1, r1⟩ := T_lst s rx
      cases T_int ry
      exact .inr (.inr (.inl ⟨a, n, xs, rfl, rfl, h1, hz.2.2, hz.2.1, by rw [r1.length]; exact hz.1, new_f s (r1.rep n.toNat) k⟩))
    · cases e
  · split at e
    · rename_i l n hz
      cases e
      obtain ⟨a, xs, rfl, h1, r1⟩ := T_tup s rx
      cases T_int ry
      rw [← hK] at h1
      exact .inr (.inr (.inr ⟨a, n, xs, rfl, rfl, h1, fun z => hz.1 (r1.nil_iff.mp z), hz.2.1, hz.2.2.1, by rw [r1.length]; exact hz.2.2.2, new_t s (r1.rep n.toNat) k⟩))
    · cases e
  · cases e
def mulI : D → D → Option RV
  | .int i, .int j => if mulOk i j = true then some (.d (.int (i * j))) else none
  | _, _ => none
theorem iop_mulW : OpR X (inplaceOp .Mult) (rI CMulW fun i j => .int (i * j)) := opI fun _ _ _ _ _ _ _ hc q => imul_int q hc.ok
theorem io_mul : OpR X (inplaceOp .Mult) (rD G mulI) := int2 iop_mulW fun x y rv h => by
  unfold mulI at h
  split at h
  · split at h
    · rename_i i j hz
      cases h
      exact ⟨i, j, rfl, rfl, of_decide_eq_true (p := i.natAbs.log2 + j.natAbs.log2 < 1000000) hz, rfl⟩
    · cases h
  · cases h
/-- // by a positive divisor that is not huge -/
def fdivD : D → D → Option RV
  | .int i, .int j => if 0 < j ∧ j.natAbs.log2 < 9000 then some (.d (.int (i / j))) else none
  | _, _ => none
theorem fdiv_inv (x y : D) (rv : RV) (h : fdivD x y = some rv) : ∃ i j, x = .int i ∧ y = .int j ∧ CDivW i j ∧ rv = .d (.int (i / j)) := by
  unfold fdivD at h
  split at h
  · split at h
    · rename_i hz
      cases h
      exact ⟨_, _, rfl, rfl, hz, rfl⟩
    · cases h
  · cases h
theorem o_fdiv : OpR X (binaryOp .FloorDiv) (rD G fdivD) := int2 op_fdivW fdiv_inv
theorem iop_fdivW : OpR X (inplaceOp .FloorDiv) (rI CDivW fun i j => .int (i / j)) := opI fun i j _ _ _ _ _ hc q => by
  have h1 : (0 : Int) < j := hc.1
  exact ifloordiv_int (by omega) (by rw [Int.fdiv_eq_ediv_of_nonneg i (by omega)]; exact q) (.inl (PyProof.noPylong_of_log2 hc.2))
theorem io_fdiv : OpR X (inplaceOp .FloorDiv) (rD G fdivD) := int2 iop_fdivW fdiv_inv
def modD : D → D → Option RV
  | .int i, .int j => if 0 < j then some (.d (.int (i % j))) else none
  | _, _ => none
theorem mod_inv (x y : D) (rv : RV) (h : modD x y = some rv) : ∃ i j, x = .int i ∧ y = .int j ∧ 0 < j ∧ rv = .d (.int (i % j)) := by
  unfold modD at h
  split at h
  · split at h
    · rename_i hz
      cases h
      exact ⟨_, _, rfl, rfl, hz, rfl⟩
    · cases h
  · cases h
theorem o_mod : OpR X (binaryOp .Mod) (rD G modD) := int2 op_mod mod_inv
theorem io_mod : OpR X (inplaceOp .Mod) (rD G modD) := int2 iop_mod mod_inv
def powD : D → D → Option RV
  | .int i, .int j => if 0 ≤ j ∧ (Builtin.Int.intBits i : Int) * j ≤ 2 ^ 27 then some (.d (.int (i ^ j.toNat))) else none
  | _, _ => none
theorem op_powW : OpR X (binaryOp .Pow) (rI (fun i j => 0 ≤ j ∧ (Builtin.Int.intBits i : Int) * j ≤ 2 ^ 27) fun i j => .int (i ^ j.toNat)) := opI fun _ _ _ _ _ _ _ hc q => pow_int hc.1 hc.2 q
theorem o_pow : OpR X (binaryOp .Pow) (rD G powD) := int2 op_powW fun x y rv h => by
  unfold powD at h
  split at h
  · split at h
    · rename_i hz
      cases h
      exact ⟨_, _, rfl, rfl, hz, rfl⟩
    · cases h
  · cases h
def negD : D → Option RV
  | .int i => some (.d (.int (-i)))
  | _ => none
theorem u_neg : UnR X (unaryOp .USub) (rD1 G negD) := unr_of un_neg fun v H Q ⟨F, x, rv, s, rx, e, k⟩ => by
  unfold negD at e
  split at e
  · cases e
    cases T_int rx
    exact ⟨_, rfl, k F H _ (.refl s) (.int _)⟩
  · cases e
/-! ### == != -/
mutual
def D.eqv : D → D → Bool
  | .non, .non => true
  | .bl a, .bl b => a == b
  | .bl a, .int j => (if a then 1 else 0) == j
  | .int i, .bl b => i == (if b then 1 else 0)
  | .int i, .int j => i == j
  | .str a, .str b => a == b
  | .lst a, .lst b => D.eqvs a b
  | .tup a, .tup b => D.eqvs a b
  | _, _ => false
def D.eqvs : List D → List D → Bool
  | [], [] => true
  | x :: xs, y :: ys => D.eqv x y && D.eqvs xs ys
  | _, _ => false
end
mutual
def D.toPy : D → PyData
  | .non => .none
  | .bl b => .bool b
  | .int i => .int i
  | .str l => .str ⟨l.toArray⟩
  | .lst l => .list (D.toPys l)
  | .tup l => .tuple (D.toPys l)
  | .dic _ => .none
  | .ins _ _ => .none
  | .cls _ => .none
  | .ro _ => .none
def D.toPys : List D → List PyData
  | [] => []
  | x :: xs => x.toPy :: D.toPys xs
end
mutual
/-- data that == is known of: no dict, no object; signs of Unicode -/
def D.okq : D → Bool
  | .non => true
  | .bl _ => true
  | .int _ => true
  | .str l => l.all (· < 0x110000)
  | .lst l => D.okqs l
  | .tup l => D.okqs l
  | _ => false
def D.okqs : List D → Bool
  | [] => true
  | x :: xs => x.okq && D.okqs xs
end
mutual
def D.dep : D → Nat
  | .lst l => D.deps l + 1
  | .tup l => D.deps l + 1
  | _ => 0
def D.deps : List D → Nat
  | [] => 0
  | x :: xs => max x.dep (D.deps xs)
end
def okD (x : D) : Bool := x.okq && decide (x.dep ≤ 64)
mutual
theorem toPy_ok : ∀ x : D, x.okq = true → x.toPy.canLay0 = true
  | .non, _ => rfl
  | .bl _, _ => rfl
  | .int _, _ => rfl
  | .str l, h => by
    show PyData.strOk ⟨l.toArray⟩ = true
    unfold PyData.strOk
    have h : l.all (· < 0x110000) = true := h
    simpa using h
  | .lst l, h => toPys_ok l h
  | .tup l, h => toPys_ok l h
  | .dic _, h => by cases h
  | .ins _ _, h => by cases h
  | .cls _, h => by cases h
  | .ro _, h => by cases h
theorem toPys_ok : ∀ l : List D, D.okqs l = true → PyData.canLayAll0 (D.toPys l) = true
  | [], _ => rfl
  | x :: xs, h => by
    have h : (x.okq && D.okqs xs) = true := h
    obtain ⟨h1, h2⟩ := Bool.and_eq_true_iff.mp h
    show (x.toPy.canLay0 && PyData.canLayAll0 (D.toPys xs)) = true
    rw [toPy_ok x h1, toPys_ok xs h2]
    rfl
end
mutual
theorem toPy_dep : ∀ x : D, x.okq = true → x.toPy.depth = x.dep
  | .non, _ => rfl
  | .bl _, _ => rfl
  | .int _, _ => rfl
  | .str l, h => rfl
  | .lst l, h => congrArg (· + 1) (toPys_dep l h)
  | .tup l, h => congrArg (· + 1) (toPys_dep l h)
  | .dic _, h => by cases h
  | .ins _ _, h => by cases h
  | .cls _, h => by cases h
  | .ro _, h => by cases h
theorem toPys_dep : ∀ l : List D, D.okqs l = true → PyData.depthAll (D.toPys l) = D.deps l
  | [], _ => rfl
  | x :: xs, h => by
    have h : (x.okq && D.okqs xs) = true := h
    obtain ⟨h1, h2⟩ := Bool.and_eq_true_iff.mp h
    show max x.toPy.depth (PyData.depthAll (D.toPys xs)) = max x.dep (D.deps xs)
    rw [toPy_dep x h1, toPys_dep xs h2]
end
theorem shaped_toPy {x : D} (h : okD x = true) : SeqAt.shaped x.toPy = true := by
  obtain ⟨h1, h2⟩ := Bool.and_eq_true_iff.mp h
  unfold SeqAt.shaped
  rw [toPy_ok x h1, toPy_dep x h1]
  exact h2
theorem str_beq (a b : List Nat) : ((⟨a.toArray⟩ : Str) == ⟨b.toArray⟩) = (a == b) := by
  rw [Bool.eq_iff_iff]
  simp
mutual
theorem toPy_eqv : ∀ x y : D, x.okq = true → y.okq = true → PyData.eqv x.toPy y.toPy = D.eqv x y
  | .non, .non, _, _ => rfl
  | .non, .bl _, _, _ => rfl
  | .non, .int _, _, _ => rfl
  | .non, .str _, _, _ => rfl
  | .non, .lst _, _, _ => rfl
  | .non, .tup _, _, _ => rfl
  | .bl _, .non, _, _ => rfl
  | .bl _, .bl _, _, _ => rfl
  | .bl _, .int _, _, _ => rfl
  | .bl _, .str _, _, _ => rfl
  | .bl _, .lst _, _, _ => rfl
  | .bl _, .tup _, _, _ => rfl
  | .int _, .non, _, _ => rfl
  | .int _, .bl _, _, _ => rfl
  | .int _, .int _, _, _ => rfl
  | .int _, .str _, _, _ => rfl
  | .int _, .lst _, _, _ => rfl
  | .int _, .tup _, _, _ => rfl
  | .str _, .non, _, _ => rfl
  | .str _, .bl _, _, _ => rfl
  | .str _, .int _, _, _ => rfl
  | .str a, .str b, _, _ => str_beq a b
  | .str _, .lst _, _, _ => rfl
  | .str _, .tup _, _, _ => rfl
  | .lst _, .non, _, _ => rfl
  | .lst _, .bl _, _, _ => rfl
  | .lst _, .int _, _, _ => rfl
  | .lst _, .str _, _, _ => rfl
  | .lst a, .lst b, h, k => toPys_eqv a b h k
  | .lst _, .tup _, _, _ => rfl
  | .tup _, .non, _, _ => rfl
  | .tup _, .bl _, _, _ => rfl
  | .tup _, .int _, _, _ => rfl
  | .tup _, .str _, _, _ => rfl
  | .tup _, .lst _, _, _ => rfl
  | .tup a, .tup b, h, k => toPys_eqv a b h k
  | .dic _, _, h, _ => by cases h
  | .ins _ _, _, h, _ => by cases h
  | .cls _, _, h, _ => by cases h
  | .ro _, _, h, _ => by cases h
  | _, .dic _, _, h => by cases h
  | _, .ins _ _, _, h => by cases h
  | _, .cls _, _, h => by cases h
  | _, .ro _, _, h => by cases h
theorem toPys_eqv : ∀ x y : List D, D.okqs x = true → D.okqs y = true → PyData.eqvAll (D.toPys x) (D.toPys y) = D.eqvs x y
  | [], [], _, _ => rfl
  | [], _ :: _, _, _ => rfl
  | _ :: _, [], _, _ => rfl
  | x :: xs, y :: ys, h, k => by
    have h : (x.okq && D.okqs xs) = true := h
    have k : (y.okq && D.okqs ys) = true := k
    obtain ⟨h1, h2⟩ := Bool.and_eq_true_iff.mp h
    obtain ⟨k1, k2⟩ := Bool.and_eq_true_iff.mp k
    show (PyData.eqv x.toPy y.toPy && PyData.eqvAll (D.toPys xs) (D.toPys ys)) = (D.eqv x y && D.eqvs xs ys)
    rw [toPy_eqv x y h1 k1, toPys_eqv xs ys h2 k2]
end
mutual
theorem toPy_dp {F H : Hp} (s : Same F H) : ∀ {v : V} {x : D}, Rep G F v x → x.okq = true → Dp G.K H v x.toPy
  | _, _, .non, _ => .non
  | _, _, .bl b, _ => .bl b
  | _, _, .int i, _ => .int i
  | _, _, .str (x := z) (l := l) e, _ => by
    subst e
    exact .str z
  | _, _, .lst h r, k => .lst (.of (s _ _ h)) (toPys_dp s r k)
  | _, _, .tup h r, k => .tup (sqT_same s h) (toPys_dp s r k)
  | _, _, .dic _ _, k => by cases k
  | _, _, .ins _ _ _, k => by cases k
  | _, _, .ro _ _, k => by cases k
  | _, _, .cls _, k => by cases k
theorem toPys_dp {F H : Hp} (s : Same F H) : ∀ {v : List V} {x : List D}, RepA G F v x → D.okqs x = true → DpAll G.K H v (D.toPys x)
  | _, _, .nil, _ => .nil
  | _, _, .cons (d := d) (ds := ds) h r, k => by
    have k : (d.okq && D.okqs ds) = true := k
    obtain ⟨k1, k2⟩ := Bool.and_eq_true_iff.mp k
    exact .cons (toPy_dp s h k1) (toPys_dp s r k2)
end
theorem toPy_dpT {F H : Hp} (s : Same F H) {v : V} {x : D} (r : RepT G F H v x) (k : x.okq = true) : Dp G.K H v x.toPy := by
  rcases r with r | ⟨a, rfl, ow⟩
  · exact toPy_dp s r k
  · cases x with
    | lst l =>
      obtain ⟨xs, h, ra⟩ := ow
      exact .lst (.of h) (toPys_dp s ra k)
    | dic _ => cases k
    | ins _ _ => cases k
    | _ => exact ow.elim
/-- == as a Bool, where it is known -/
def eqB (x y : D) : Option Bool := match x, y with
  | .str a, .str b => some (a == b)
  | x, y => if okD x = true ∧ okD y = true then some (D.eqv x y) else none
def eqD (x y : D) : Option RV := (eqB x y).map fun b => .d (.bl b)
def neD (x y : D) : Option RV := (eqB x y).map fun b => .d (.bl (!b))
theorem eqB_ok {F H : Hp} {v u : V} {x y : D} {b : Bool} (s : Same F H) (rx : RepT G F H v x) (ry : RepT G F H u y) (e : eqB x y = some b) :
    (∃ z w : Str, v = .str z ∧ u = .str w ∧ b = decide (V.str z = V.str w)) ∨ ∃ d d', Dp G.K H v d ∧ Dp G.K H u d' ∧ SeqAt.shaped d = true ∧ SeqAt.shaped d' = true ∧ b = PyData.eqv d d' := by
  have gen : okD x = true ∧ okD y = true → b = D.eqv x y → ∃ d d', Dp G.K H v d ∧ Dp G.K H u d' ∧ SeqAt.shaped d = true ∧ SeqAt.shaped d' = true ∧ b = PyData.eqv d d' := fun ⟨h1, h2⟩ e => by
    have k1 := (Bool.and_eq_true_iff.mp h1).1
    have k2 := (Bool.and_eq_true_iff.mp h2).1
    exact ⟨x.toPy, y.toPy, toPy_dpT s rx k1, toPy_dpT s ry k2, shaped_toPy h1, shaped_toPy h2, by rw [toPy_eqv x y k1 k2]; exact e⟩
  unfold eqB at e
  split at e
  · cases e
    obtain ⟨z, rfl, h1⟩ := T_str rx
    obtain ⟨w, rfl, h2⟩ := T_str ry
    refine .inl ⟨z, w, rfl, rfl, ?_⟩
    subst h1 h2
    rw [Bool.eq_iff_iff]
    constructor
    · intro h
      have h : z.cps.toList = w.cps.toList := beq_iff_eq.mp h
      have : z = w := by
        cases z; cases w
        simpa using h
      rw [this]
      simp
    · intro h
      have h := V.str.inj (of_decide_eq_true h)
      rw [h]
      simp
  · split at e
    · rename_i h
      cases e
      exact .inr (gen h rfl)
    · cases e
theorem o_eq (hK : X.K = G.K) (hu : X.A.units + 64 < cLine) : OpR X (compareOp .Eq) (rD G eqD) := opr_of (op_eq.or (op_eqD hu)) fun v u H Q ⟨F, x, y, rv, s, rx, ry, e, k⟩ => by
  unfold eqD at e
  cases q : eqB x y with
  | none => rw [q] at e; cases e
  | some b =>
    rw [q] at e
    cases e
    have kk := k F H (.bl b) (.refl s) (.bl b)
    rcases eqB_ok s rx ry q with ⟨z, w, rfl, rfl, rfl⟩ | ⟨d, d', h1, h2, h3, h4, rfl⟩
    · exact .inl ⟨rfl, kk⟩
    · rw [← hK] at h1 h2
      exact .inr ⟨d, d', h1, h2, h3, h4, kk⟩
theorem o_ne (hK : X.K = G.K) (hu : X.A.units + 64 < cLine) : OpR X (compareOp .NotEq) (rD G neD) := opr_of (op_ne.or (op_neD hu)) fun v u H Q ⟨F, x, y, rv, s, rx, ry, e, k⟩ => by
  unfold neD at e
  cases q : eqB x y with
  | none => rw [q] at e; cases e
  | some b =>
    rw [q] at e
    cases e
    have kk := k F H (.bl (!b)) (.refl s) (.bl (!b))
    rcases eqB_ok s rx ry q with ⟨z, w, rfl, rfl, rfl⟩ | ⟨d, d', h1, h2, h3, h4, rfl⟩
    · exact .inl ⟨rfl, kk⟩
    · rw [← hK] at h1 h2
      exact .inr ⟨d, d', h1, h2, h3, h4, kk⟩
end
end MM
set_option Elab.async false
set_option maxRecDepth 100000
set_option maxHeartbeats 2000000
namespace MM
open PySem PySem.Spec PyProof.Rows L2
section
variable {X : Cx} {G : GG} {g : Gh} {W : WX} {pos p apos : Pos}
/-! ### < <= > >= -/
def cmpD (fi : Int → Int → Bool) (fs : List Nat → List Nat → Bool) : D → D → Option RV
  | .int i, .int j => some (.d (.bl (fi i j)))
  | .str a, .str b => some (.d (.bl (fs a b)))
  | _, _ => none
def ltD : D → D → Option RV := cmpD (fun i j => decide (i < j)) fun a b => decide (a < b)
def leD : D → D → Option RV := cmpD (fun i j => decide (i ≤ j)) fun a b => !decide (b < a)
def gtD : D → D → Option RV := cmpD (fun i j => decide (j < i)) fun a b => decide (b < a)
def geD : D → D → Option RV := cmpD (fun i j => decide (j ≤ i)) fun a b => !decide (a < b)
theorem o_cmp {f : Value → Value → Sem Value} {fi : Int → Int → Bool} {fs : List Nat → List Nat → Bool} (h1 : OpR X f (rI0 fun i j => .bl (fi i j))) (h2 : OpR X f (fun x y H Q => ∃ i j, x = .str i ∧ y = .str j ∧ Q (.bl (fs i.cps.toList j.cps.toList)) H)) : OpR X f (rD G (cmpD fi fs)) :=
  opr_of (h1.or h2) fun v u H Q ⟨F, x, y, rv, s, rx, ry, e, k⟩ => by
    unfold cmpD at e
    split at e
    · cases e
      cases T_int rx
      cases T_int ry
      exact .inl ⟨_, _, rfl, rfl, k F H _ (.refl s) (.bl _)⟩
    · cases e
      obtain ⟨z, rfl, h1⟩ := T_str rx
      obtain ⟨w, rfl, h2⟩ := T_str ry
      refine .inr ⟨z, w, rfl, rfl, ?_⟩
      rw [h1, h2]
      exact k F H _ (.refl s) (.bl _)
    · cases e
theorem o_lt : OpR X (compareOp .Lt) (rD G ltD) := o_cmp op_lt op_lt_str
theorem o_le : OpR X (compareOp .LtE) (rD G leD) := o_cmp op_le op_le_str
theorem o_gt : OpR X (compareOp .Gt) (rD G gtD) := o_cmp op_gt op_gt_str
theorem o_ge : OpR X (compareOp .GtE) (rD G geD) := o_cmp op_ge op_ge_str
/-! ### in, not in -/
def flatD : D → Bool
  | .non => true
  | .bl _ => true
  | .int _ => true
  | .str _ => true
  | _ => false
def inL (x : D) (l : List D) : Bool := l.any fun y => D.eqv y x
def inB : D → D → Option Bool
  | .str [c], .str l => some (decide (c ∈ l))
  | x, .lst l => if flatD x = true ∧ l.all flatD = true then some (inL x l) else none
  | x, .tup l => if flatD x = true ∧ l.all flatD = true then some (inL x l) else none
  | x, .ro l => if flatD x = true ∧ l.all flatD = true then some (inL x l) else none
  | _, _ => none
def inD (x y : D) : Option RV := (inB x y).map fun b => .d (.bl b)
def notInD (x y : D) : Option RV := (inB x y).map fun b => .d (.bl (!b))
theorem flat_ok {F H : Hp} {v : V} {x : D} (r : RepT G F H v x) (h : flatD x = true) : flatV v = true := by
  cases x with
  | non => rw [T_non r]; rfl
  | bl b => rw [T_bl r]; rfl
  | int i => rw [T_int r]; rfl
  | str l => obtain ⟨z, rfl, _⟩ := T_str r; rfl
  | _ => cases h
theorem flats_ok {F : Hp} : ∀ {vs : List V} {l : List D}, RepA G F vs l → l.all flatD = true → vs.all flatV = true
  | _, _, .nil, _ => rfl
  | _, _, .cons h r, k => by
    rw [List.all_cons, Bool.and_eq_true] at k
    rw [List.all_cons, flat_ok (H := F) (.inl h) k.1, flats_ok r k.2]
    rfl
theorem str_eq_iff (z w : Str) : (z == w) = (z.cps.toList == w.cps.toList) := by
  rw [Bool.eq_iff_iff]
  cases z; cases w
  simp
theorem eqV_ok {F H : Hp} {v u : V} {x y : D} (r : RepT G F H v x) (q : RepT G F H u y) (h : flatD x = true) (k : flatD y = true) : eqV v u = D.eqv x y := by
  cases x with
  | non =>
    rw [T_non r]
    cases y with
    | non => rw [T_non q]; rfl
    | bl b => rw [T_bl q]; rfl
    | int i => rw [T_int q]; rfl
    | str l => obtain ⟨z, rfl, _⟩ := T_str q; rfl
    | _ => cases k
  | bl b =>
    rw [T_bl r]
    cases y with
    | non => rw [T_non q]; rfl
    | bl b => rw [T_bl q]; rfl
    | int i => rw [T_int q]; rfl
    | str l => obtain ⟨z, rfl, _⟩ := T_str q; rfl
    | _ => cases k
  | int i =>
    rw [T_int r]
    cases y with
    | non => rw [T_non q]; rfl
    | bl b => rw [T_bl q]; rfl
    | int i => rw [T_int q]; rfl
    | str l => obtain ⟨z, rfl, _⟩ := T_str q; rfl
    | _ => cases k
  | str l =>
    obtain ⟨z, rfl, h1⟩ := T_str r
    cases y with
    | non => rw [T_non q]; rfl
    | bl b => rw [T_bl q]; rfl
    | int i => rw [T_int q]; rfl
    | str m =>
      obtain ⟨w, rfl, h2⟩ := T_str q
      show (z == w) = (l == m)
      rw [str_eq_iff, h1, h2]
    | _ => cases k
  | _ => cases h
theorem inL_ok {F H : Hp} {u : V} {x : D} (s : Same F H) (q : RepT G F H u x) (h : flatD x = true) : ∀ {vs : List V} {l : List D}, RepA G F vs l → l.all flatD = true → inV u vs = inL x l
  | _, _, .nil, _ => rfl
  | _, _, .cons a r, k => by
    rw [List.all_cons, Bool.and_eq_true] at k
    have ih := inL_ok s q h r k.2
    unfold inV at ih ⊢
    unfold inL at ih ⊢
    rw [List.any_cons, List.any_cons, ih, eqV_ok (.inl a) q k.1 h]
theorem inB_ok {F H : Hp} {v u : V} {x y : D} {b : Bool} (s : Same F H) (rx : RepT G F H v x) (ry : RepT G F H u y) (e : inB x y = some b) :
    (∃ (c : Nat) (z : Str), v = .str ⟨#[c]⟩ ∧ u = .str z ∧ b = decide (c ∈ z.cps.toList)) ∨ ∃ p xs, u = .ref p ∧ (SqL G.K H p xs ∨ SqT G.K H p xs) ∧ flatV v = true ∧ xs.all flatV = true ∧ b = inV v xs := by
  unfold inB at e
  split at e
  · cases e
    obtain ⟨z, rfl, h1⟩ := T_str rx
    obtain ⟨w, rfl, h2⟩ := T_str ry
    rename_i c l
    refine .inl ⟨c, w, ?_, rfl, by rw [h2]⟩
    cases z with
    | mk a =>
      have : a = #[c] := by
        apply Array.toList_inj.mp
        exact h1
      rw [this]
  · split at e
    · rename_i h
      cases e
      obtain ⟨a, xs, rfl, h1, r1⟩ := T_lst s ry
      exact .inr ⟨a, xs, rfl, .inl (.of h1), flat_ok rx h.1, flats_ok r1 h.2, (inL_ok s rx h.1 r1 h.2).symm⟩
    · cases e
  · split at e
    · rename_i h
      cases e
      obtain ⟨a, xs, rfl, h1, r1⟩ := T_tup s ry
      exact .inr ⟨a, xs, rfl, .inr h1, flat_ok rx h.1, flats_ok r1 h.2, (inL_ok s rx h.1 r1 h.2).symm⟩
    · cases e
  · split at e
    · rename_i h
      cases e
      obtain ⟨a, xs, rfl, h1, r1⟩ := T_ro s ry
      exact .inr ⟨a, xs, rfl, .inl h1, flat_ok rx h.1, flats_ok r1 h.2, (inL_ok s rx h.1 r1 h.2).symm⟩
    · cases e
  · cases e
theorem o_in (hK : X.K = G.K) : OpR X (compareOp .In) (rD G inD) := opr_of (op_in_sign.or op_in_seq) fun v u H Q ⟨F, x, y, rv, s, rx, ry, e, k⟩ => by
  unfold inD at e
  cases q : inB x y with
  | none => rw [q] at e; cases e
  | some b =>
    rw [q] at e
    cases e
    have kk := k F H (.bl b) (.refl s) (.bl b)
    rcases inB_ok s rx ry q with ⟨c, z, rfl, rfl, rfl⟩ | ⟨a, xs, rfl, h1, h2, h3, rfl⟩
    · exact .inl ⟨c, z, rfl, rfl, kk⟩
    · rw [← hK] at h1
      exact .inr ⟨a, xs, rfl, h1, h2, h3, kk⟩
theorem o_notIn (hK : X.K = G.K) : OpR X (compareOp .NotIn) (rD G notInD) := opr_of (op_notIn_sign.or op_notIn_seq) fun v u H Q ⟨F, x, y, rv, s, rx, ry, e, k⟩ => by
  unfold notInD at e
  cases q : inB x y with
  | none => rw [q] at e; cases e
  | some b =>
    rw [q] at e
    cases e
    have kk := k F H (.bl (!b)) (.refl s) (.bl (!b))
    rcases inB_ok s rx ry q with ⟨c, z, rfl, rfl, rfl⟩ | ⟨a, xs, rfl, h1, h2, h3, rfl⟩
    · exact .inl ⟨c, z, rfl, rfl, kk⟩
    · rw [← hK] at h1
      exact .inr ⟨a, xs, rfl, h1, h2, h3, kk⟩
/-! ### is None -/
def isND : D → D → Option RV
  | .non, .non => some (.d (.bl true))
  | .int _, .non => some (.d (.bl false))
  | .bl _, .non => some (.d (.bl false))
  | .str _, .non => some (.d (.bl false))
  | .lst _, .non => some (.d (.bl false))
  | .tup _, .non => some (.d (.bl false))
  | .dic _, .non => some (.d (.bl false))
  | .ins _ _, .non => some (.d (.bl false))
  | .cls _, .non => some (.d (.bl false))
  | _, _ => none
theorem rep_notNon {F H : Hp} {v : V} {x : D} (r : RepT G F H v x) (h : x ≠ .non) : v ≠ .non := by
  rcases r with r | ⟨a, rfl, ow⟩
  · cases r <;> first | exact absurd rfl h | (intro z; cases z)
  · intro z; cases z
theorem isN_ok {F H : Hp} {v u : V} {x y : D} {b : Bool} (rx : RepT G F H v x) (ry : RepT G F H u y) (e : isND x y = some (.d (.bl b))) : u = .non ∧ decide (v = .non) = b := by
  have : y = .non := by
    unfold isND at e
    split at e <;> first | rfl | cases e
  subst this
  refine ⟨T_non ry, ?_⟩
  cases x with
  | non =>
    cases e
    rw [T_non rx]
    rfl
  | ro _ => cases e
  | _ =>
    cases e
    exact decide_eq_false (rep_notNon rx (fun z => by cases z))
theorem isND_bl {x y : D} {rv : RV} (e : isND x y = some rv) : ∃ b, rv = .d (.bl b) := by
  unfold isND at e
  split at e <;> first | (cases e; exact ⟨_, rfl⟩) | cases e
theorem o_isN : OpR X (compareOp .Is) (rD G isND) := opr_of op_isN fun v u H Q ⟨F, x, y, rv, s, rx, ry, e, k⟩ => by
  obtain ⟨b, rfl⟩ := isND_bl e
  obtain ⟨h1, h2⟩ := isN_ok rx ry e
  exact ⟨h1, by rw [h2]; exact k F H _ (.refl s) (.bl _)⟩
def notND (x y : D) : Option RV := match isND x y with
  | some (.d (.bl b)) => some (.d (.bl (!b)))
  | _ => none
theorem o_notN : OpR X (compareOp .IsNot) (rD G notND) := opr_of op_notN fun v u H Q ⟨F, x, y, rv, s, rx, ry, e, k⟩ => by
  unfold notND at e
  split at e
  · rename_i b q
    cases e
    obtain ⟨h1, h2⟩ := isN_ok rx ry q
    exact ⟨h1, by rw [h2]; exact k F H _ (.refl s) (.bl _)⟩
  · cases e
/-! ### subscripts, slices -/
def ixD : D → D → Option RV
  | .lst l, .int i => (atI l i).map .d
  | .ro l, .int i => (atI l i).map .d
  | .tup l, .int i => (atI l i).map .d
  | .str l, .int i => if l.length ≤ sizeLine then (atI l i).map fun c => .d (.str [c]) else none
  | _, _ => none
theorem atI_rep {F : Hp} {vs : List V} {l : List D} {i : Int} {x : D} (r : RepA G F vs l) (e : atI l i = some x) : ∃ v, atI vs i = some v ∧ Rep G F v x := by
  unfold atI at e ⊢
  rw [r.length]
  cases q : ixN l.length i with
  | none => rw [q] at e; cases e
  | some j =>
    rw [q] at e
    exact r.get e
theorem i_ix (hK : X.K = G.K) : IxR X (rD G ixD) := fun value slice pins s σ H x y v u Q => by
  have base := ix_seq (X := X) value slice pins s σ H x y v u Q
  intro I rx ry h hs
  refine base I rx ry ?_ hs
  obtain ⟨F, dx, dy, rv, sF, r1, r2, e, k⟩ := h
  unfold ixD at e
  split at e
  · cases T_int r2
    rename_i l i
    cases q : atI l i with
    | none => rw [q] at e; cases e
    | some z =>
      rw [q] at e
      cases e
      obtain ⟨a, xs, rfl, h1, ra⟩ := T_lst sF r1
      obtain ⟨w, h2, h3⟩ := atI_rep ra q
      exact .inl ⟨a, xs, i, w, rfl, rfl, .of h1, h2, k F H _ (.refl sF) h3⟩
  · cases T_int r2
    rename_i l i
    cases q : atI l i with
    | none => rw [q] at e; cases e
    | some z =>
      rw [q] at e
      cases e
      obtain ⟨a, xs, rfl, h1, ra⟩ := T_ro sF r1
      obtain ⟨w, h2, h3⟩ := atI_rep ra q
      rw [← hK] at h1
      exact .inl ⟨a, xs, i, w, rfl, rfl, h1, h2, k F H _ (.refl sF) h3⟩
  · cases T_int r2
    rename_i l i
    cases q : atI l i with
    | none => rw [q] at e; cases e
    | some z =>
      rw [q] at e
      cases e
      obtain ⟨a, xs, rfl, h1, ra⟩ := T_tup sF r1
      obtain ⟨w, h2, h3⟩ := atI_rep ra q
      rw [← hK] at h1
      exact .inr (.inl ⟨a, xs, i, w, rfl, rfl, h1, h2, k F H _ (.refl sF) h3⟩)
  · cases T_int r2
    rename_i l i
    split at e
    · rename_i hz
      cases q : atI l i with
      | none => rw [q] at e; cases e
      | some c =>
        rw [q] at e
        cases e
        obtain ⟨z, rfl, h1⟩ := T_str r1
        exact .inr (.inr ⟨z, i, c, rfl, rfl, by rw [str_len h1]; exact hz, by rw [h1]; exact q, k F H _ (.refl sF) (.str rfl)⟩)
    · cases e
  · cases e
def cutL {α : Type} (xs : List α) (lo hi : Option Int) : List α := (xs.drop (HT.sIx xs.length 0 lo)).take (HT.sIx xs.length xs.length hi - HT.sIx xs.length 0 lo)
theorem RepA.cut {F : Hp} {vs : List V} {l : List D} (r : RepA G F vs l) (lo hi : Option Int) : RepA G F (cutV vs lo hi) (cutL l lo hi) := by
  unfold cutV cutL
  rw [r.length]
  exact (r.drop _).take _
def sliceD : D → Option Int → Option Int → Option RV
  | .lst l, lo, hi => some (.f (.lst (cutL l lo hi)))
  | .tup l, lo, hi => some (.d (.tup (cutL l lo hi)))
  | .str l, lo, hi => if l.length ≤ sizeLine then some (.d (.str (cutL l lo hi))) else none
  | _, _, _ => none
theorem cutL_all {α : Type} {l : List α} {lo hi : Option Int} (h : HT.sIx l.length 0 lo = 0 ∧ HT.sIx l.length l.length hi = l.length) : cutL l lo hi = l := by
  unfold cutL
  rw [h.1, h.2]
  simp
theorem s_slice (hK : X.K = G.K) : SlR X (rSD G sliceD) := fun pins s σ H x v vl vu lo hi sl Q => by
  have base := (sl_list (X := X)).or ((sl_tupA (X := X)).or (sl_str (X := X))) pins s σ H x v vl vu lo hi sl Q
  intro I rx hs pl pu h
  refine base I rx hs pl pu ?_
  obtain ⟨F, dx, rv, sF, r1, e, k⟩ := h
  unfold sliceD at e
  split at e
  · cases e
    obtain ⟨a, xs, rfl, h1, ra⟩ := T_lst sF r1
    exact .inl ⟨a, xs, rfl, .of h1, new_f sF (ra.cut _ _) k⟩
  · cases e
    obtain ⟨a, xs, rfl, h1, ra⟩ := T_tup sF r1
    rw [← hK] at h1
    refine .inr (.inl ⟨a, xs, rfl, h1, fun hw => ?_, fun _ => new_t sF (ra.cut _ _) k⟩)
    rw [ra.length] at hw
    refine k F H _ (.refl sF) ?_
    rw [cutL_all hw]
    rcases r1 with r | ⟨_, _, ow⟩
    · exact r
    · exact ow.elim
  · split at e
    · rename_i hz
      cases e
      obtain ⟨z, rfl, h1⟩ := T_str r1
      refine .inr (.inr ⟨z, rfl, by rw [str_len h1]; exact hz, k F H _ (.refl sF) (.str ?_)⟩)
      subst h1
      unfold cutS cutL
      rfl
    · cases e
  · cases e
/-! ### built-in functions -/
theorem Ts1 {F H : Hp} {vs : List V} {x : D} (r : RepTs G F H vs [x]) : ∃ v, vs = [v] ∧ RepT G F H v x := by
  cases r with
  | cons h t => cases t; exact ⟨_, rfl, h⟩
theorem Ts2 {F H : Hp} {vs : List V} {x y : D} (r : RepTs G F H vs [x, y]) : ∃ v u, vs = [v, u] ∧ RepT G F H v x ∧ RepT G F H u y := by
  cases r with
  | cons h t =>
    obtain ⟨u, rfl, h2⟩ := Ts1 t
    exact ⟨_, _, rfl, h, h2⟩
def lenD : List D → Option RV
  | [.lst l] => some (.d (.int l.length))
  | [.ro l] => some (.d (.int l.length))
  | [.tup l] => some (.d (.int l.length))
  | [.str l] => if l.length ≤ sizeLine then some (.d (.int l.length)) else none
  | _ => none
theorem c_len (hK : X.K = G.K) : CallR X (.builtin "len") (rCD G lenD) := callr_of (call_len_seq.or call_len_str) fun vs H Q ⟨F, xs, rv, s, rs, e, k⟩ => by
  unfold lenD at e
  split at e
  · cases e
    obtain ⟨v, rfl, r⟩ := Ts1 rs
    obtain ⟨a, ys, rfl, h1, ra⟩ := T_lst s r
    exact .inl ⟨a, ys, rfl, .inl (.of h1), k F H _ (.refl s) (by rw [ra.length]; exact .int _)⟩
  · cases e
    obtain ⟨v, rfl, r⟩ := Ts1 rs
    obtain ⟨a, ys, rfl, h1, ra⟩ := T_ro s r
    rw [← hK] at h1
    exact .inl ⟨a, ys, rfl, .inl h1, k F H _ (.refl s) (by rw [ra.length]; exact .int _)⟩
  · cases e
    obtain ⟨v, rfl, r⟩ := Ts1 rs
    obtain ⟨a, ys, rfl, h1, ra⟩ := T_tup s r
    rw [← hK] at h1
    exact .inl ⟨a, ys, rfl, .inr h1, k F H _ (.refl s) (by rw [ra.length]; exact .int _)⟩
  · split at e
    · rename_i hz
      cases e
      obtain ⟨v, rfl, r⟩ := Ts1 rs
      obtain ⟨z, rfl, h1⟩ := T_str r
      exact .inr ⟨z, rfl, by rw [str_len h1]; exact hz, k F H _ (.refl s) (by rw [str_len h1]; exact .int _)⟩
    · cases e
  · cases e
def absD : List D → Option RV
  | [.int i] => some (.d (.int (if i < 0 then -i else i)))
  | _ => none
theorem c_abs : CallR X (.builtin "abs") (rCD G absD) := callr_of call_abs fun vs H Q ⟨F, xs, rv, s, rs, e, k⟩ => by
  unfold absD at e
  split at e
  · cases e
    obtain ⟨v, rfl, r⟩ := Ts1 rs
    cases T_int r
    exact ⟨_, rfl, k F H _ (.refl s) (.int _)⟩
  · cases e
/-- max, min of two numbers, of a list of numbers -/
def maxI : List Int → Option Int
  | [] => none
  | [i] => some i
  | i :: r => (maxI r).map fun m => if m > i then m else i
def minI : List Int → Option Int
  | [] => none
  | [i] => some i
  | i :: r => (minI r).map fun m => if m < i then m else i
def intsD : List D → Option (List Int)
  | [] => some []
  | .int i :: r => (intsD r).map (i :: ·)
  | _ :: _ => none
theorem intsD_rep {F : Hp} : ∀ {l : List D} {ns : List Int} {vs : List V}, intsD l = some ns → RepA G F vs l → vs = ns.map V.int
  | [], _, _, e, r => by
    cases e
    cases r
    rfl
  | .int i :: t, ns, _, e, .cons h r => by
    unfold intsD at e
    cases q : intsD t with
    | none => rw [q] at e; cases e
    | some ms =>
      rw [q] at e
      cases e
      cases h
      rw [intsD_rep q r]
      rfl
  | .non :: _, _, _, e, _ => by cases e
  | .bl _ :: _, _, _, e, _ => by cases e
  | .str _ :: _, _, _, e, _ => by cases e
  | .lst _ :: _, _, _, e, _ => by cases e
  | .tup _ :: _, _, _, e, _ => by cases e
  | .dic _ :: _, _, _, e, _ => by cases e
  | .ins _ _ :: _, _, _, e, _ => by cases e
  | .cls _ :: _, _, _, e, _ => by cases e
  | .ro _ :: _, _, _, e, _ => by cases e
theorem maxI_spec : ∀ {l : List Int} {m : Int}, maxI l = some m → m ∈ l ∧ ∀ y ∈ l, y ≤ m
  | [], _, e => by cases e
  | [i], _, e => by
    cases e
    exact ⟨by simp, by simp⟩
  | i :: j :: r, m, e => by
    unfold maxI at e
    cases q : maxI (j :: r) with
    | none => rw [q] at e; cases e
    | some k =>
      rw [q] at e
      obtain ⟨h1, h2⟩ := maxI_spec q
      have e := Option.some.inj e
      dsimp only at e
      split at e
      · subst e
        exact ⟨List.mem_cons_of_mem _ h1, fun y hy => by
          rcases List.mem_cons.mp hy with z | z
          · omega
          · exact h2 y z⟩
      · subst e
        exact ⟨List.mem_cons_self, fun y hy => by
          rcases List.mem_cons.mp hy with z | z
          · omega
          · have := h2 y z; omega⟩
theorem minI_spec : ∀ {l : List Int} {m : Int}, minI l = some m → m ∈ l ∧ ∀ y ∈ l, m ≤ y
  | [], _, e => by cases e
  | [i], _, e => by
    cases e
    exact ⟨by simp, by simp⟩
  | i :: j :: r, m, e => by
    unfold minI at e
    cases q : minI (j :: r) with
    | none => rw [q] at e; cases e
    | some k =>
      rw [q] at e
      obtain ⟨h1, h2⟩ := minI_spec q
      have e := Option.some.inj e
      dsimp only at e
      split at e
      · subst e
        exact ⟨List.mem_cons_of_mem _ h1, fun y hy => by
          rcases List.mem_cons.mp hy with z | z
          · omega
          · exact h2 y z⟩
      · subst e
        exact ⟨List.mem_cons_self, fun y hy => by
          rcases List.mem_cons.mp hy with z | z
          · omega
          · have := h2 y z; omega⟩
def maxD : List D → Option RV
  | [.int i, .int j] => some (.d (.int (if j > i then j else i)))
  | [.lst l] => ((intsD l).bind maxI).map fun m => .d (.int m)
  | _ => none
def minD : List D → Option RV
  | [.int i, .int j] => some (.d (.int (if j < i then j else i)))
  | [.lst l] => ((intsD l).bind minI).map fun m => .d (.int m)
  | _ => none
theorem c_max (hc : X.calm = true) : CallR X (.builtin "max") (rCD G maxD) := callr_of ((call_max2 hc).or (cr_max hc)) fun vs H Q ⟨F, xs, rv, s, rs, e, k⟩ => by
  unfold maxD at e
  split at e
  · cases e
    obtain ⟨v, u, rfl, r1, r2⟩ := Ts2 rs
    cases T_int r1
    cases T_int r2
    exact .inl ⟨_, _, rfl, k F H _ (.refl s) (.int _)⟩
  · rename_i l
    cases q : intsD l with
    | none => rw [q] at e; cases e
    | some ns =>
      rw [q] at e
      have e : (maxI ns).map (fun m => RV.d (.int m)) = some rv := e
      cases q2 : maxI ns with
      | none => rw [q2] at e; cases e
      | some m =>
        rw [q2] at e
        cases e
        obtain ⟨v, rfl, r⟩ := Ts1 rs
        obtain ⟨a, ys, rfl, h1, ra⟩ := T_lst s r
        rw [intsD_rep q ra] at h1
        obtain ⟨m1, m2⟩ := maxI_spec q2
        exact .inr ⟨a, ns, rfl, .of h1, by cases ns with
          | nil => cases m1
          | cons _ _ => simp, fun m' h2 h3 => by
          have : m' = m := Int.le_antisymm (m2 m' h2) (h3 m m1)
          rw [this]
          exact k F H _ (.refl s) (.int _)⟩
  · cases e
theorem c_min (hc : X.calm = true) : CallR X (.builtin "min") (rCD G minD) := callr_of ((call_min2 hc).or (cr_min hc)) fun vs H Q ⟨F, xs, rv, s, rs, e, k⟩ => by
  unfold minD at e
  split at e
  · cases e
    obtain ⟨v, u, rfl, r1, r2⟩ := Ts2 rs
    cases T_int r1
    cases T_int r2
    exact .inl ⟨_, _, rfl, k F H _ (.refl s) (.int _)⟩
  · rename_i l
    cases q : intsD l with
    | none => rw [q] at e; cases e
    | some ns =>
      rw [q] at e
      have e : (minI ns).map (fun m => RV.d (.int m)) = some rv := e
      cases q2 : minI ns with
      | none => rw [q2] at e; cases e
      | some m =>
        rw [q2] at e
        cases e
        obtain ⟨v, rfl, r⟩ := Ts1 rs
        obtain ⟨a, ys, rfl, h1, ra⟩ := T_lst s r
        rw [intsD_rep q ra] at h1
        obtain ⟨m1, m2⟩ := minI_spec q2
        exact .inr ⟨a, ns, rfl, .of h1, by cases ns with
          | nil => cases m1
          | cons _ _ => simp, fun m' h2 h3 => by
          have : m' = m := Int.le_antisymm (h3 m m1) (m2 m' h2)
          rw [this]
          exact k F H _ (.refl s) (.int _)⟩
  · cases e
def intD : List D → Option RV
  | [.int i] => some (.d (.int i))
  | [.bl k] => some (.d (.int (if k then 1 else 0)))
  | _ => none
theorem c_int : CallR X (.type "int") (rCD G intD) := callr_of call_int1 fun vs H Q ⟨F, xs, rv, s, rs, e, k⟩ => by
  unfold intD at e
  split at e
  · cases e
    obtain ⟨v, rfl, r⟩ := Ts1 rs
    cases T_int r
    exact .inl ⟨_, rfl, k F H _ (.refl s) (.int _)⟩
  · cases e
    obtain ⟨v, rfl, r⟩ := Ts1 rs
    cases T_bl r
    exact .inr ⟨_, rfl, k F H _ (.refl s) (.int _)⟩
  · cases e
def sumD : List D → Option RV
  | [.lst l] => (intsD l).map fun ns => .d (.int ns.sum)
  | _ => none
theorem c_sum (hc : X.calm = true) : CallR X (.builtin "sum") (rCD G sumD) := callr_of (cr_sum hc) fun vs H Q ⟨F, xs, rv, s, rs, e, k⟩ => by
  unfold sumD at e
  split at e
  · rename_i l
    cases q : intsD l with
    | none => rw [q] at e; cases e
    | some ns =>
      rw [q] at e
      cases e
      obtain ⟨v, rfl, r⟩ := Ts1 rs
      obtain ⟨a, ys, rfl, h1, ra⟩ := T_lst s r
      rw [intsD_rep q ra] at h1
      exact ⟨a, ns, rfl, .of h1, k F H _ (.refl s) (.int _)⟩
  · cases e
def boolsD : List D → Option (List Bool)
  | [] => some []
  | .bl i :: r => (boolsD r).map (i :: ·)
  | _ :: _ => none
theorem boolsD_rep {F : Hp} : ∀ {l : List D} {ns : List Bool} {vs : List V}, boolsD l = some ns → RepA G F vs l → vs = ns.map V.bl
  | [], _, _, e, r => by
    cases e
    cases r
    rfl
  | .bl i :: t, ns, _, e, .cons h r => by
    unfold boolsD at e
    cases q : boolsD t with
    | none => rw [q] at e; cases e
    | some ms =>
      rw [q] at e
      cases e
      cases h
      rw [boolsD_rep q r]
      rfl
  | .non :: _, _, _, e, _ => by cases e
  | .int _ :: _, _, _, e, _ => by cases e
  | .str _ :: _, _, _, e, _ => by cases e
  | .lst _ :: _, _, _, e, _ => by cases e
  | .tup _ :: _, _, _, e, _ => by cases e
  | .dic _ :: _, _, _, e, _ => by cases e
  | .ins _ _ :: _, _, _, e, _ => by cases e
  | .cls _ :: _, _, _, e, _ => by cases e
  | .ro _ :: _, _, _, e, _ => by cases e
def allD : List D → Option RV
  | [.lst l] => (boolsD l).map fun ns => .d (.bl (ns.all id))
  | _ => none
def anyD : List D → Option RV
  | [.lst l] => (boolsD l).map fun ns => .d (.bl (ns.any id))
  | _ => none
theorem c_all (hc : X.calm = true) : CallR X (.builtin "all") (rCD G allD) := callr_of (cr_all hc) fun vs H Q ⟨F, xs, rv, s, rs, e, k⟩ => by
  unfold allD at e
  split at e
  · rename_i l
    cases q : boolsD l with
    | none => rw [q] at e; cases e
    | some ns =>
      rw [q] at e
      cases e
      obtain ⟨v, rfl, r⟩ := Ts1 rs
      obtain ⟨a, ys, rfl, h1, ra⟩ := T_lst s r
      rw [boolsD_rep q ra] at h1
      exact ⟨a, ns, rfl, .of h1, k F H _ (.refl s) (.bl _)⟩
  · cases e
theorem c_any (hc : X.calm = true) : CallR X (.builtin "any") (rCD G anyD) := callr_of (cr_any hc) fun vs H Q ⟨F, xs, rv, s, rs, e, k⟩ => by
  unfold anyD at e
  split at e
  · rename_i l
    cases q : boolsD l with
    | none => rw [q] at e; cases e
    | some ns =>
      rw [q] at e
      cases e
      obtain ⟨v, rfl, r⟩ := Ts1 rs
      obtain ⟨a, ys, rfl, h1, ra⟩ := T_lst s r
      rw [boolsD_rep q ra] at h1
      exact ⟨a, ns, rfl, .of h1, k F H _ (.refl s) (.bl _)⟩
  · cases e
def listD : List D → Option RV
  | [.lst l] => some (.f (.lst l))
  | [.ro l] => some (.f (.lst l))
  | [.tup l] => some (.f (.lst l))
  | _ => none
theorem c_list (hK : X.K = G.K) : CallR X (.type "list") (rCD G listD) := callr_of call_list_of fun vs H Q ⟨F, xs, rv, s, rs, e, k⟩ => by
  unfold listD at e
  split at e
  · cases e
    obtain ⟨v, rfl, r⟩ := Ts1 rs
    obtain ⟨a, ys, rfl, h1, ra⟩ := T_lst s r
    exact ⟨a, ys, rfl, .inl (.of h1), new_f s ra k⟩
  · cases e
    obtain ⟨v, rfl, r⟩ := Ts1 rs
    obtain ⟨a, ys, rfl, h1, ra⟩ := T_ro s r
    rw [← hK] at h1
    exact ⟨a, ys, rfl, .inl h1, new_f s ra k⟩
  · cases e
    obtain ⟨v, rfl, r⟩ := Ts1 rs
    obtain ⟨a, ys, rfl, h1, ra⟩ := T_tup s r
    rw [← hK] at h1
    exact ⟨a, ys, rfl, .inr h1, new_f s ra k⟩
  · cases e
def tupleD : List D → Option RV
  | [.lst l] => some (.d (.tup l))
  | [.ro l] => some (.d (.tup l))
  | [.tup l] => some (.d (.tup l))
  | _ => none
theorem c_tuple (hK : X.K = G.K) : CallR X (.type "tuple") (rCD G tupleD) := callr_of call_tuple_of fun vs H Q ⟨F, xs, rv, s, rs, e, k⟩ => by
  unfold tupleD at e
  split at e
  · cases e
    obtain ⟨v, rfl, r⟩ := Ts1 rs
    obtain ⟨a, ys, rfl, h1, ra⟩ := T_lst s r
    exact ⟨a, ys, rfl, .inl ⟨.of h1, new_t s ra k⟩⟩
  · cases e
    obtain ⟨v, rfl, r⟩ := Ts1 rs
    obtain ⟨a, ys, rfl, h1, ra⟩ := T_ro s r
    rw [← hK] at h1
    exact ⟨a, ys, rfl, .inl ⟨h1, new_t s ra k⟩⟩
  · cases e
    obtain ⟨v, rfl, r⟩ := Ts1 rs
    obtain ⟨a, ys, rfl, h1, ra⟩ := T_tup s r
    rw [← hK] at h1
    refine ⟨a, ys, rfl, .inr ⟨h1, k F H _ (.refl s) ?_⟩⟩
    rcases r with r | ⟨_, _, ow⟩
    · exact r
    · exact ow.elim
  · cases e
/-! ### methods of texts -/
def upL (l : List Nat) : List Nat := (PySem.Txt.upper ⟨l.toArray⟩).cps.toList
def lowL (l : List Nat) : List Nat := (PySem.Txt.lower ⟨l.toArray⟩).cps.toList
def upperD : D → List D → Option RV
  | .str l, [] => if l.length ≤ 5592405 then some (.d (.str (upL l))) else none
  | _, _ => none
def lowerD : D → List D → Option RV
  | .str l, [] => if l.length ≤ 5592405 then some (.d (.str (lowL l))) else none
  | _, _ => none
theorem Ts0 {F H : Hp} {vs : List V} (r : RepTs G F H vs []) : vs = [] := by
  cases r
  rfl
theorem str_back {z : Str} {l : List Nat} (h : z.cps.toList = l) : z = ⟨l.toArray⟩ := by
  subst h
  cases z
  simp
theorem m_upper : MtR X "str.upper" (rMD G upperD) := mtr_of mt_upper fun v vs H Q ⟨F, x, xs, rv, s, r, rs, e, k⟩ => by
  unfold upperD at e
  split at e
  · split at e
    · rename_i hz
      cases e
      obtain ⟨z, rfl, h1⟩ := T_str r
      rw [Ts0 rs]
      refine ⟨z, rfl, rfl, by rw [str_len h1]; exact hz, k F H _ (.refl s) (.str ?_)⟩
      rw [str_back h1]
      rfl
    · cases e
  · cases e
theorem m_lower : MtR X "str.lower" (rMD G lowerD) := mtr_of mt_lower fun v vs H Q ⟨F, x, xs, rv, s, r, rs, e, k⟩ => by
  unfold lowerD at e
  split at e
  · split at e
    · rename_i hz
      cases e
      obtain ⟨z, rfl, h1⟩ := T_str r
      rw [Ts0 rs]
      refine ⟨z, rfl, rfl, by rw [str_len h1]; exact hz, k F H _ (.refl s) (.str ?_)⟩
      rw [str_back h1]
      rfl
    · cases e
  · cases e
def strsD : List D → Option (List (List Nat))
  | [] => some []
  | .str i :: r => (strsD r).map (i :: ·)
  | _ :: _ => none
theorem strsD_rep {F : Hp} : ∀ {l : List D} {ns : List (List Nat)} {vs : List V}, strsD l = some ns → RepA G F vs l → ∃ ys : List Str, vs = ys.map V.str ∧ ys.map (·.cps.toList) = ns
  | [], _, _, e, r => by
    cases e
    cases r
    exact ⟨[], rfl, rfl⟩
  | .str i :: t, ns, _, e, .cons h r => by
    unfold strsD at e
    cases q : strsD t with
    | none => rw [q] at e; cases e
    | some ms =>
      rw [q] at e
      cases e
      obtain ⟨ys, h1, h2⟩ := strsD_rep q r
      cases h with
      | @str z _ hz => exact ⟨z :: ys, by rw [h1]; rfl, by rw [List.map_cons, h2, hz]⟩
  | .non :: _, _, _, e, _ => by cases e
  | .int _ :: _, _, _, e, _ => by cases e
  | .bl _ :: _, _, _, e, _ => by cases e
  | .lst _ :: _, _, _, e, _ => by cases e
  | .tup _ :: _, _, _, e, _ => by cases e
  | .dic _ :: _, _, _, e, _ => by cases e
  | .ins _ _ :: _, _, _, e, _ => by cases e
  | .cls _ :: _, _, _, e, _ => by cases e
  | .ro _ :: _, _, _, e, _ => by cases e
def joinOf (a : List Nat) (l : List D) : Option RV := match strsD l with
  | some ys => if (ys.map (·.length)).sum + ys.length * a.length ≤ 16777216 then some (.d (.str (TL.joinL a ys))) else none
  | none => none
def joinD : D → List D → Option RV
  | .str a, [.lst l] => joinOf a l
  | .str a, [.tup l] => joinOf a l
  | _, _ => none
theorem join_ok {F H : Hp} {Q : VK} {z : Str} {a : List Nat} {l : List D} {vs : List V} {rv : RV} (s : Same F H) (hz : z.cps.toList = a) (ra : RepA G F vs l) (e : joinOf a l = some rv) (k : ∀ F' H' w, Step F H F' H' → RepO G H F' H' w rv → Q w H') :
    ∃ ys : List Str, vs = ys.map V.str ∧ (ys.map (·.length)).sum + ys.length * z.length ≤ 16777216 ∧ Q (.str (PySem.Txt.join z ys)) H := by
  unfold joinOf at e
  cases q : strsD l with
  | none => rw [q] at e; cases e
  | some ys =>
    rw [q] at e
    dsimp only at e
    split at e
    · rename_i hl
      cases e
      obtain ⟨zs, h1, h2⟩ := strsD_rep q ra
      have e1 : zs.map (·.length) = ys.map (·.length) := by
        rw [← h2, List.map_map]
        rfl
      have e2 : zs.length = ys.length := by rw [← h2, List.length_map]
      refine ⟨zs, h1, by rw [e1, e2, str_len hz]; exact hl, k F H _ (.refl s) (.str ?_)⟩
      rw [TL.join_eq]
      have e3 : (Str.join z zs).cps.toList = TL.joinL z.cps.toList (zs.map (·.cps.toList)) := TL.tl_join z zs
      rw [e3, h2, ← hz]
    · cases e
theorem m_join (hK : X.K = G.K) : MtR X "str.join" (rMD G joinD) := mtr_of mt_join fun v vs H Q ⟨F, x, xs, rv, s, r, rs, e, k⟩ => by
  unfold joinD at e
  split at e
  · obtain ⟨z, rfl, h1⟩ := T_str r
    obtain ⟨u, rfl, r2⟩ := Ts1 rs
    obtain ⟨a, us, rfl, h2, ra⟩ := T_lst s r2
    obtain ⟨ys, e1, e2, e3⟩ := join_ok s h1 ra e k
    exact ⟨z, a, ys, rfl, rfl, .inl (.of (by rw [← e1]; exact h2)), e2, e3⟩
  · obtain ⟨z, rfl, h1⟩ := T_str r
    obtain ⟨u, rfl, r2⟩ := Ts1 rs
    obtain ⟨a, us, rfl, h2, ra⟩ := T_tup s r2
    obtain ⟨ys, e1, e2, e3⟩ := join_ok s h1 ra e k
    rw [← hK] at h2
    exact ⟨z, a, ys, rfl, rfl, .inr (by rw [← e1]; exact h2), e2, e3⟩
  · cases e
/-! ### isinstance(x, T), T a built-in class -/
def tyN : D → Option String
  | .non => some "NoneType"
  | .bl _ => some "bool"
  | .int _ => some "int"
  | .str _ => some "str"
  | .lst _ => some "list"
  | .tup _ => some "tuple"
  | .dic _ => some "dict"
  | _ => none
def isT (T : String) (x : D) : Option Bool := match tyN x with
  | some t => some (t == T || (t == "bool" && T == "int"))
  | none => none
def isOkT (T : String) : Bool := ["int", "str", "bool", "list", "tuple", "dict"].contains T
theorem isT_kit {T : String} {x : D} {b : Bool} (h : isT T x = some b) (hT : isOkT T = true) : ∃ t, tyN x = some t ∧ kitB t T = some b := by
  unfold isT at h
  cases q : tyN x with
  | none => rw [q] at h; cases h
  | some t =>
    rw [q] at h
    cases h
    refine ⟨t, rfl, ?_⟩
    have tab : ∀ t ∈ ["NoneType", "bool", "int", "str", "list", "tuple", "dict"], ∀ T ∈ ["int", "str", "bool", "list", "tuple", "dict"], kitB t T = some (t == T || (t == "bool" && T == "int")) := by decide +kernel
    refine tab t ?_ T ?_
    · cases x <;> cases q <;> decide
    · unfold isOkT at hT
      exact List.contains_iff_mem.mp hT
theorem tyN_ok {F H : Hp} {v : V} {x : D} {t : String} (s : Same F H) (r : RepT G F H v x) (h : tyN x = some t) : TyX G.K H v (.type t) := by
  cases x with
  | non => cases h; rw [T_non r]; exact .base .non
  | bl b => cases h; rw [T_bl r]; exact .base (.bl b)
  | int b => cases h; rw [T_int r]; exact .base (.int b)
  | str b => cases h; obtain ⟨z, rfl, _⟩ := T_str r; exact .base (.str z)
  | lst l => cases h; obtain ⟨a, xs, rfl, h1, _⟩ := T_lst s r; exact .base (.lst h1)
  | dic l => cases h; obtain ⟨a, xs, rfl, h1, _⟩ := T_dic s r; exact .base (.dK h1)
  | tup l =>
    cases h
    obtain ⟨a, xs, rfl, h1, _⟩ := T_tup s r
    rcases h1 with (h1 | ⟨o, h1⟩) | ⟨o, its, n, h1, h2, _⟩
    · exact .base (.tup h1)
    · exact .fTuple h1
    · exact .kTuple h1 h2
  | ins _ _ => cases h
  | cls _ => cases h
  | ro _ => cases h
def mIsT (T : String) (f : Ex) : Ex := fun ρ => (mHold f ρ).bind fun h ρ1 => match peekH ρ1 h with
  | some x => (match isT T x with
    | some b => .ok (.d (.bl b)) ρ1
    | none => .bad)
  | none => .bad
theorem me_isT {T : Str} {Tn : String} {e : Expr} {f : Ex} {np tp : Pos} (hK : X.K = G.K) (hg : Gl X "isinstance") (hm : X.mg "isinstance" = none) (hgT : Gl X T) (hmT : X.mg T = none) (hv : bootBuiltins T = some (.type Tn)) (hT : isOkT Tn = true) (ha : ME X G g W e f)
    (h1 : starEach [e, .Name T tp] X.env = (false, eval e X.env) :: starEach [.Name T tp] X.env := by rfl) (h2 : starEach [.Name T tp] X.env = (false, eval (.Name T tp) X.env) :: starEach [] X.env := by rfl) (hpl : (backTo pos (starEach [.Name T tp] X.env)).any (·.1) = false := by rfl)
    (hn : T ≠ "__name__" := by decide) (hdb : (T == ("__debug__" : Str)) = false := by decide) :
    ME X G g W (.Call (.Name "isinstance" np) [e, .Name T tp] [] pos) (mIsT Tn f) :=
  pe_imp (pe_callB (call_isi (X := X)) hg hm (by decide +kernel) (pa_cons (me_hold ha) (pa_cons (pe_bltn (v := .ty Tn) hgT hmT hv rfl hn hdb) pa_nil h2) h1) (by decide) (by decide) h1 hpl) fun σ H Q ⟨F, ρ, I, k⟩ => by
    refine ⟨F, ρ, I, k.bind.imp fun F1 H1 ρ1 h s1 I1 k1 v r => ?_⟩
    cases q : peekH ρ1 h with
    | none => rw [q] at k1; exact k1.elim
    | some x =>
      rw [q] at k1
      dsimp only at k1
      cases q2 : isT Tn x with
      | none => rw [q2] at k1; exact k1.elim
      | some b =>
        rw [q2] at k1
        obtain ⟨t, e1, e2⟩ := isT_kit q2 hT
        have ty := tyN_ok I1.fh (peekH_rep I1 r q) e1
        rw [← hK] at ty
        exact ⟨v, .ty Tn, .type t, .type Tn, b, rfl, .ty Tn, ty, kit_ty e2, k1 F1 H1 (.refl _) I1 _ (.bl b)⟩
end
end MM
set_option Elab.async false
set_option maxRecDepth 100000
set_option maxHeartbeats 2000000
namespace MM
open PySem PySem.Spec PyProof.Rows L2
section
variable {X : Cx} {G : GG} {g : Gh} {W : WX} {pos p : Pos} {tg : Expr}
theorem pi_imp {iter : Expr} {t t' : TI} (h : PI X tg iter t) (i : ∀ σ H R, t' σ H R → t σ H R) : PI X tg iter t' := ⟨fun pins s σ H R I w => h.run pins s σ H R I (i σ H R w)⟩
/-! ### any sequence -/
def iAny (K : PySem.W.Frag) (te : TE) : TI := fun σ H R => te σ H fun v H1 => (∃ a, v = .ref a ∧ (∃ xs, SqL K H1 a xs) ∧ R (Itl K a) H1) ∨ (∃ a, v = .ref a ∧ (∃ xs, SqT K H1 a xs) ∧ R (Itt K a) H1) ∨ ∃ x, v = .str x ∧ R (Its x) H1
theorem pi_any {e : Expr} {te : TE} (he : PE X e te) : PI X tg e (iAny X.K te) := by
  refine ⟨fun pins s σ H R I h => ?_⟩
  refine thn (he.run pins s σ H _ I h) fun v s1 ⟨y, H1, I1, r1, q1⟩ => ?_
  rcases q1 with ⟨a, rfl, ⟨xs, hq⟩, q⟩ | ⟨a, rfl, ⟨xs, hq⟩, q⟩ | ⟨x, rfl, q⟩
  · cases r1
    obtain ⟨its, rv, p, hz⟩ := I1.list hq
    refine wpAny_pyIter_list p.isList ?_
    refine ⟨s1.heap.objs.size, [s1.heap.objs.size], _, _, H1, rfl, I1.kept (t' := s1.toks) fun b o e => Heap.get?_push_of_some _ e, turn_list a _, ⟨_, Heap.get?_push_size _ rfl, rfl, rfl⟩, fun b hb => ?_, q⟩
    have e : b = s1.heap.objs.size := by simpa using hb
    subst e
    exact I1.fpOk (Nat.le_refl _) (I1.hok.fresh (Nat.le_refl _))
  · cases r1
    obtain ⟨its, rv, p, hz⟩ := I1.tuple hq
    refine wpAny_pyIter_tuple (show s1.heap.IsTuple a its.toArray from p) ?_
    refine ⟨s1.heap.objs.size, [s1.heap.objs.size], _, _, H1, rfl, I1.kept (t' := s1.toks) fun b o e => Heap.get?_push_of_some _ e, turn_tuple a _, ⟨_, Heap.get?_push_size _ rfl, rfl, rfl⟩, fun b hb => ?_, q⟩
    have e : b = s1.heap.objs.size := by simpa using hb
    subst e
    exact I1.fpOk (Nat.le_refl _) (I1.hok.fresh (Nat.le_refl _))
  · obtain ⟨t, rfl⟩ := r1
    cases ha : x.cps.all (· < 128)
    · exact wpAny_pyIter_wide ha (pi_one (tk := s1.toks) I1 _ (turn_str _ x t "str_iterator" (.inr rfl)) ⟨_, Heap.get?_push_size _ rfl, rfl, rfl⟩ q)
    · exact wpAny_pyIter_ascii ha (pi_one (tk := s1.toks) I1 _ (turn_str _ x t "str_ascii_iterator" (.inl rfl)) ⟨_, Heap.get?_push_size _ rfl, rfl, rfl⟩ q)
/-- the items of a sequence -/
def itemsD : D → Option (List D)
  | .lst l => some l
  | .ro l => some l
  | .tup l => some l
  | .str a => some (a.map fun c => .str [c])
  | _ => none
def mItems (f : Ex) : List S → R (List D) := fun ρ => (mForce f ρ).bind fun x ρ1 => match itemsD x with
  | some l => .ok l ρ1
  | none => .bad
theorem itd_seq {F H : Hp} {J : It} {l : List D} {xs : List V} (ra : RepA G F xs l) (hl : xs.length = l.length) (go : ∀ F1 H1 i, Same F F1 → Same F1 H1 → i < xs.length → J.go i H1)
    (yl : ∀ F1 H1 i v H2, Same F F1 → Same F1 H1 → J.yld i H1 v H2 → H2 = H1 ∧ xs[i]? = some v) (st : ∀ F1 H1 i, Same F F1 → Same F1 H1 → xs.length ≤ i → J.stop i H1) : ItD G J l F H where
  go := fun F1 H1 i a b c => go F1 H1 i a b (by omega)
  yld := fun F1 H1 i v H2 a b y c => by
    obtain ⟨rfl, hx⟩ := yl F1 H1 i v H2 a b y
    obtain ⟨x, hx2, rx⟩ := ra.getV hx
    exact ⟨F1, x, Step.refl b, hx2, rx.mono a⟩
  stop := fun F1 H1 i a b c => st F1 H1 i a b (by omega)
theorem same_lst {F F1 H1 : Hp} {a : Addr} {o : HO} (e : F a = some o) (s : Same F F1) (h : Same F1 H1) : H1 a = some o := h _ _ (s _ _ e)
theorem itd_lst {F H : Hp} {a : Addr} {xs : List V} {l : List D} (q : ∀ H1, Same F H1 → SqL G.K H1 a xs) (ra : RepA G F xs l) : ItD G (Itl G.K a) l F H :=
  itd_seq ra ra.length (fun F1 H1 i s1 s2 hlt => ⟨xs, xs[i], q H1 (s1.trans s2), List.getElem?_eq_getElem hlt⟩)
    (fun F1 H1 i v H2 s1 s2 y => ⟨y.1, y.2 xs (q H1 (s1.trans s2))⟩) (fun F1 H1 i s1 s2 hle => ⟨xs, q H1 (s1.trans s2), hle⟩)
theorem itd_tup {F H : Hp} {a : Addr} {xs : List V} {l : List D} (q : ∀ H1, Same F H1 → SqT G.K H1 a xs) (ra : RepA G F xs l) : ItD G (Itt G.K a) l F H :=
  itd_seq ra ra.length (fun F1 H1 i s1 s2 hlt => ⟨xs, xs[i], q H1 (s1.trans s2), List.getElem?_eq_getElem hlt⟩)
    (fun F1 H1 i v H2 s1 s2 y => ⟨y.1, y.2 xs (q H1 (s1.trans s2))⟩) (fun F1 H1 i s1 s2 hle => ⟨xs, q H1 (s1.trans s2), hle⟩)
theorem itd_str {F H : Hp} {z : Str} {a : List Nat} (e : z.cps.toList = a) : ItD G (Its z) (a.map fun c => .str [c]) F H := by
  subst e
  refine ⟨fun F1 H1 i s1 s2 hlt => ?_, fun F1 H1 i v H2 s1 s2 y hlt => ?_, fun F1 H1 i s1 s2 hle => ?_⟩
  · show i < z.cps.size
    simpa using hlt
  · obtain ⟨rfl, c, hc, rfl⟩ := y
    refine ⟨F1, .str [c], Step.refl s2, ?_, .str rfl⟩
    simp [List.getElem?_map, hc]
  · show z.cps.size ≤ i
    simpa using hle
theorem rep_items {F H : Hp} {v : V} {x : D} {l : List D} (s : Same F H) (r : Rep G F v x) (e : itemsD x = some l) (R : It → Hp → Prop) (k : ∀ J, ItD G J l F H → R J H) :
    (∃ a, v = .ref a ∧ (∃ xs, SqL G.K H a xs) ∧ R (Itl G.K a) H) ∨ (∃ a, v = .ref a ∧ (∃ xs, SqT G.K H a xs) ∧ R (Itt G.K a) H) ∨ ∃ x, v = .str x ∧ R (Its x) H := by
  cases r with
  | non => cases e
  | bl => cases e
  | int => cases e
  | dic => cases e
  | ins => cases e
  | cls => cases e
  | str h =>
    cases e
    exact .inr (.inr ⟨_, rfl, k _ (itd_str h)⟩)
  | lst h ra =>
    cases e
    exact .inl ⟨_, rfl, ⟨_, .of (s _ _ h)⟩, k _ (itd_lst (fun H1 q => .of (q _ _ h)) ra)⟩
  | tup h ra =>
    cases e
    exact .inr (.inl ⟨_, rfl, ⟨_, sqT_same s h⟩, k _ (itd_tup (fun H1 q => sqT_same q h) ra)⟩)
  | ro h ra =>
    cases e
    exact .inl ⟨_, rfl, ⟨_, s.seq h⟩, k _ (itd_lst (fun H1 q => q.seq h) ra)⟩
theorem mi_any {e : Expr} {f : Ex} (hK : X.K = G.K) (he : ME X G g W e f) : MI X G g W tg e (mItems f) := pi_imp (pi_any (me_force he)) fun σ H Rr ⟨F, ρ, I, k⟩ => by
  refine ⟨F, ρ, I, k.bind.imp fun F1 H1 ρ1 x s1 I1 k1 v r => ?_⟩
  cases q : itemsD x with
  | none => rw [q] at k1; exact k1.elim
  | some l =>
    rw [q] at k1
    rw [hK]
    exact rep_items I1.fh r q Rr fun J hJ => k1 F1 H1 (.refl _) I1 J hJ
/-! ### range -/
def rngD (lo : Int) (n : Nat) : List D := (List.range n).map fun i => .int (lo + (i : Nat))
theorem itd_rng {F H : Hp} {lo : Int} {n : Nat} : ItD G (Itr lo n) (rngD lo n) F H := by
  refine ⟨fun F1 H1 i s1 s2 hlt => ?_, fun F1 H1 i v H2 s1 s2 y hlt => ?_, fun F1 H1 i s1 s2 hle => ?_⟩
  · show i < n
    simpa [rngD] using hlt
  · obtain ⟨rfl, rfl⟩ := y
    have hlt : i < n := by simpa [rngD] using hlt
    exact ⟨F1, .int (lo + (i : Nat)), Step.refl s2, by simp [rngD, hlt], .int _⟩
  · show n ≤ i
    simpa [rngD] using hle
def rngOk (i j : Int) : Bool := decide (i.natAbs.log2 < 61) && decide (j.natAbs.log2 < 61)
theorem log2_back {n k : Nat} (h : n.log2 < k) : n < 2 ^ k := by
  by_cases h0 : n = 0
  · subst h0
    exact Nat.pos_of_ne_zero (by simp)
  · exact (Nat.log2_lt h0).mp h
theorem rngOk_of {i j : Int} (h : rngOk i j = true) : -(2 ^ 62) ≤ i ∧ i < 2 ^ 62 ∧ -(2 ^ 62) ≤ j ∧ j < 2 ^ 62 := by
  simp only [rngOk, Bool.and_eq_true, decide_eq_true_eq] at h
  have h1 := log2_back h.1
  have h2 := log2_back h.2
  omega
def mSrc (d : List D → Option (List D)) (r : List S → R (List HV)) : List S → R (List D) := fun ρ => (r ρ).bind fun hs ρ1 => (forceHs hs ρ1).bind fun xs ρ2 => match d xs with
    | some l => .ok l ρ2
    | none => .bad
theorem tMI_src {d : List D → Option (List D)} {r : List S → R (List HV)} {σ : L2.St} {H : Hp} {Rr : It → Hp → Prop} (h : tMI G g W (mSrc d r) σ H Rr) :
    tMA G g W r σ H fun vs H1 => ∃ F xs l, Same F H1 ∧ RepA G F vs xs ∧ d xs = some l ∧ ∀ J, ItD G J l F H1 → Rr J H1 := by
  obtain ⟨F, ρ, I, k⟩ := h
  refine ⟨F, ρ, I, k.bind.imp fun F1 H1 ρ1 hs s1 I1 k1 vs rs => ?_⟩
  obtain ⟨F2, ρ2, xs, s2, I2, ra, k2⟩ := Post.forced I1 rs k1.bind
  cases q2 : d xs with
  | none => rw [q2] at k2; exact k2.elim
  | some l =>
    rw [q2] at k2
    exact ⟨F2, xs, l, I2.fh, ra, q2, fun J hJ => k2 F2 H1 (.refl _) I2 J hJ⟩
theorem Ra1 {F : Hp} {vs : List V} {x : D} (r : RepA G F vs [x]) : ∃ v, vs = [v] ∧ Rep G F v x := by
  cases r with
  | cons a b => cases b; exact ⟨_, rfl, a⟩
theorem Ra2 {F : Hp} {vs : List V} {x y : D} (r : RepA G F vs [x, y]) : ∃ v u, vs = [v, u] ∧ Rep G F v x ∧ Rep G F u y := by
  cases r with
  | cons a b => cases b with
    | cons c d => cases d; exact ⟨_, _, rfl, a, c⟩
theorem rep_int {F : Hp} {v : V} {i : Int} (r : Rep G F v (.int i)) : v = .int i := by
  cases r; rfl
def rng1 : List D → Option (List D)
  | [.int j] => if rngOk 0 j = true then some (rngD 0 j.toNat) else none
  | _ => none
def rng2 : List D → Option (List D)
  | [.int i, .int j] => if rngOk i j = true then some (rngD i (j - i).toNat) else none
  | _ => none
theorem mi_range1 {e : Expr} {r : List S → R (List HV)} (hg : Gl X "range") (hm : X.mg "range" = none) (ha : MA X G g W [e] r) (hs : starEach [e] X.env = [(false, eval e X.env)] := by rfl) : MI X G g W tg (.Call (.Name "range" p) [e] [] pos) (mSrc rng1 r) :=
  pi_imp (pi_range1 hg hm ha hs) fun σ H Rr h => by
  obtain ⟨F, ρ, I, k⟩ := tMI_src h
  refine ⟨F, ρ, I, k.imp fun F1 H1 ρ1 hs s1 I1 k1 vs rs => ?_⟩
  obtain ⟨F2, xs, l, s2, rt, e, k2⟩ := k1 vs rs
  unfold rng1 at e
  split at e
  · obtain ⟨v, rfl, rv⟩ := Ra1 rt
    cases rep_int rv
    split at e
    · rename_i hok
      cases e
      obtain ⟨h1, h2, h3, h4⟩ := rngOk_of hok
      exact ⟨_, rfl, h3, h4, k2 _ itd_rng⟩
    · cases e
  · cases e
theorem mi_range2 {e e2 : Expr} {r : List S → R (List HV)} (hg : Gl X "range") (hm : X.mg "range" = none) (ha : MA X G g W [e, e2] r) (hs : starEach [e, e2] X.env = [(false, eval e X.env), (false, eval e2 X.env)] := by rfl) (hs2 : starEach [e2] X.env = [(false, eval e2 X.env)] := by rfl) : MI X G g W tg (.Call (.Name "range" p) [e, e2] [] pos) (mSrc rng2 r) :=
  pi_imp (pi_range2 hg hm ha hs hs2) fun σ H Rr h => by
  obtain ⟨F, ρ, I, k⟩ := tMI_src h
  refine ⟨F, ρ, I, k.imp fun F1 H1 ρ1 hs s1 I1 k1 vs rs => ?_⟩
  obtain ⟨F2, xs, l, s2, rt, e, k2⟩ := k1 vs rs
  unfold rng2 at e
  split at e
  · obtain ⟨v, u, rfl, rv, ru⟩ := Ra2 rt
    cases rep_int rv
    cases rep_int ru
    split at e
    · rename_i hok
      cases e
      exact ⟨_, _, rfl, rngOk_of hok, k2 _ itd_rng⟩
    · cases e
  · cases e
/-! ### zip of two texts -/
def ItzS (x y : Str) : It :=
  ⟨fun i _ => i < x.cps.size ∧ i < y.cps.size, fun i H v H' => ∃ T c d, v = .ref T ∧ H T = none ∧ H' = upd H T (.tup [.str ⟨#[c]⟩, .str ⟨#[d]⟩]) ∧ x.cps[i]? = some c ∧ y.cps[i]? = some d,
    fun i _ => x.cps.size ≤ i ∨ y.cps.size ≤ i⟩
theorem turn_zipS {P : Program} {w : World} {K : PySem.W.Frag} {elts : List Expr} {kk : Nat} {tpos : Pos} {x y : Str} {t1 t2 : Tok} {z TI TO i1 i2 : Addr} (S : ZipSep2 z TI TO i1 i2 [i1] [i2]) :
    Turn P w K (.Tuple elts kk tpos) (ItzS x y) [z, TI, TO, i1, i2] z (fun i h => (i ≤ x.cps.size ∧ i ≤ y.cps.size) ∧ IsZip h z TI TO .none ∧ IsTupOf2 h TI (.ref i1) (.ref i2) ∧ (∃ x y, IsTupOf2 h TO x y) ∧ h.IsStrIter i1 (strIterType x) x t1 i ∧ h.IsStrIter i2 (strIterType y) y t2 i) where
  mem := by simp
  obj := fun i h st c hc => by
    obtain ⟨_, hz, hTI, ⟨x, y, hTO⟩, ⟨o1, e1, _, d1⟩, ⟨o2, e2, _, d2⟩⟩ := st
    have e' : c = z ∨ c = TI ∨ c = TO ∨ c = i1 ∨ c = i2 := by simpa using hc
    rcases e' with q | q | q | q | q
    · rw [q]; exact ⟨_, hz, fun v q => nomatch q⟩
    · rw [q]; exact ⟨_, hTI, fun v q => nomatch q⟩
    · rw [q]; exact ⟨_, hTO, fun v q => nomatch q⟩
    · rw [q]; exact ⟨o1, e1, fun v q => by rw [d1] at q; cases q⟩
    · rw [q]; exact ⟨o2, e2, fun v q => by rw [d2] at q; cases q⟩
  keep := fun i h h' st k => by
    obtain ⟨hb, hz, hTI, ⟨x, y, hTO⟩, ⟨o1, e1, r1⟩, ⟨o2, e2, r2⟩⟩ := st
    exact ⟨hb, k z (by simp) _ hz, k TI (by simp) _ hTI, ⟨x, y, k TO (by simp) _ hTO⟩, ⟨o1, k i1 (by simp) _ e1, r1⟩, ⟨o2, k i2 (by simp) _ e2, r2⟩⟩
  item := by
    intro X hP hw hK hc i pins s σ H E I hf st hg
    subst hP hw hK
    obtain ⟨hb, hz, hTI, ⟨x0, y0, hTO⟩, h1, h2⟩ := st
    obtain ⟨l1, l2⟩ := hg
    have hzl : z < s.heap.objs.size := Heap.lt_size hz
    have hh : X.A.in1.handled = none := I.ok.hd hc
    refine wpAny_pyNext_zipD2_item S (Draws.text hh i1 x t1) (Draws.text hh i2 y t2) hz hTI hTO h1 h2 l1 l2 fun x1 x2 h' tk p1 p2 z' TO' h1' h2' hT hsz hk => ?_
    obtain ⟨c, u, hc1, rfl⟩ := p1
    obtain ⟨d, u2, hd1, rfl⟩ := p2
    refine ⟨_, rfl, wpAny_letOwnedTupleGo_zip (s := { s with heap := h', toks := tk }) z' fun h'' z'' sb => ?_⟩
    have hT2 : h''.get? s.heap.objs.size = some { cls := .type "tuple", data := .seq #[.str ⟨#[c]⟩ u, .str ⟨#[d]⟩ u2] } := (sb.2 _ (Nat.ne_of_gt hzl)).trans hT
    have new : ObjOk X.prog X.w (upd H s.heap.objs.size (.tup [.str ⟨#[c]⟩, .str ⟨#[d]⟩])) h'' s.heap.objs.size (.tup [.str ⟨#[c]⟩, .str ⟨#[d]⟩]) :=
      ⟨by show 2 ≤ sizeLine; decide, [.str ⟨#[c]⟩ u, .str ⟨#[d]⟩ u2], .cons ⟨_, rfl⟩ (.cons ⟨_, rfl⟩ .nil), ⟨_, hT2, rfl, _, rfl⟩⟩
    have I1 : Inv X pins σ (upd H s.heap.objs.size (.tup [.str ⟨#[c]⟩, .str ⟨#[d]⟩])) { s with heap := h'', toks := tk } :=
      I.turnedNew (t' := tk) (ch := [z, TI, TO, i1, i2]) (fun c o hb q => (sb.2 c (fun q' => hb (by simp [q']))).trans (hk c o (fun q' => hb (by simp [q'])) (fun q' => hb (by simp [q'])) (fun q' => hb (by simp [q'])) (fun q' => hb (by simp [q'])) q)) hf (Nat.le_refl _) new
    refine ⟨.ref s.heap.objs.size, _, I1, rfl, ⟨_, c, d, rfl, I.hok.fresh (Nat.le_refl _), rfl, hc1, hd1⟩, ⟨⟨l1, l2⟩, z'', ?_, ⟨.str ⟨#[c]⟩ u, .str ⟨#[d]⟩ u2, ?_⟩, ?_, ?_⟩, fun c hcm => ?_⟩
    · exact (sb.2 _ S.TIz).trans (hk _ _ S.TIz S.TITO S.TIi1 S.TIi2 hTI)
    · exact (sb.2 _ S.TOz).trans TO'
    · obtain ⟨o1, e1, r1⟩ := h1'
      exact ⟨o1, (sb.2 _ S.zi1.symm).trans e1, r1⟩
    · obtain ⟨o2, e2, r2⟩ := h2'
      exact ⟨o2, (sb.2 _ S.zi2.symm).trans e2, r2⟩
    · have hlt : c < s.heap.objs.size := by
        have e' : c = z ∨ c = TI ∨ c = TO ∨ c = i1 ∨ c = i2 := by simpa using hcm
        rcases e' with q | q | q | q | q
        · rw [q]; exact hzl
        · rw [q]; exact Heap.lt_size hTI
        · rw [q]; exact Heap.lt_size hTO
        · rw [q]; obtain ⟨_, e1, _⟩ := h1; exact Heap.lt_size e1
        · rw [q]; obtain ⟨_, e2, _⟩ := h2; exact Heap.lt_size e2
      rw [upd_ne (Nat.ne_of_lt hlt)]
      exact (hf c hcm).1
  done := by
    intro X hP hw hK hc i pins s σ H E I hf st hg
    subst hP hw hK
    obtain ⟨⟨b1, b2⟩, hz, hTI, ⟨x0, y0, hTO⟩, h1, h2⟩ := st
    have hh : X.A.in1.handled = none := I.ok.hd hc
    exact wpAny_pyNext_zipD2_end S (Draws.text hh i1 x t1) (Draws.text hh i2 y t2) hz hTI hTO h1 h2 b1 b2 (by have hg' : x.cps.size ≤ i ∨ y.cps.size ≤ i := hg; omega) fun h' tk hk => ⟨rfl, I.turnedL (t' := tk) (ch := [z, TI, TO, i1, i2]) (fun c o hb q =>
      hk c o (fun q' => hb (by simp [q'])) (fun q' => hb (by simp [q'])) (fun q' => hb (by simp [q'])) (fun q' => hb (by simp [q'])) q) hf⟩
  self := fun A i s Q E st h => wpAny_pyIter_zip st.2.1 h
def iZipB (K : PySem.W.Frag) (ta : TA) : TI := fun σ H R => ta σ H fun vs H1 => (∃ a b xs ys, vs = [.ref a, .ref b] ∧ ((SqL K H1 a xs ∧ SqL K H1 b ys ∧ R (Itz K a b) H1) ∨ (SqT K H1 a xs ∧ SqT K H1 b ys ∧ R (RZ.ItzT K a b) H1))) ∨ ∃ x y : Str, vs = [.str x, .str y] ∧ R (ItzS x y) H1
theorem pi_zipB {e e2 : Expr} {ta : TA} {tpos : Pos} {elts : List Expr} {kk : Nat} (hg : Gl X "zip") (hm : X.mg "zip" = none) (ha : PA X [e, e2] ta)
    (hs : starEach [e, e2] X.env = (false, eval e X.env) :: starEach [e2] X.env := by rfl) (hpl : (backTo pos (starEach [e2] X.env)).any (·.1) = false := by rfl) :
    PI X (.Tuple elts kk tpos) (.Call (.Name "zip" p) [e, e2] [] pos) (iZipB X.K ta) := by
  refine ⟨fun pins s σ H R I h => ?_⟩
  refine Call_ (ld_blt I hg hm PyProof.Rows.boot_zip (PyProof.Rows.callWith_type1 (thn (ha.run pos pins s σ H _ I h) fun us s1 ⟨vs, H1, I1, r1, q1⟩ => ?_) hs hpl))
  have fresh5 : ∀ c, c ∈ [s1.heap.objs.size + 4, s1.heap.objs.size + 2, s1.heap.objs.size + 3, s1.heap.objs.size, s1.heap.objs.size + 1] → FpOk X pins H1 c := fun c hcm => by
    have e' : c = s1.heap.objs.size + 4 ∨ c = s1.heap.objs.size + 2 ∨ c = s1.heap.objs.size + 3 ∨ c = s1.heap.objs.size ∨ c = s1.heap.objs.size + 1 := by simpa using hcm
    have hle : s1.heap.objs.size ≤ c := by
      rcases e' with z | z | z | z | z
      · rw [z]; exact Nat.le_add_right _ _
      · rw [z]; exact Nat.le_add_right _ _
      · rw [z]; exact Nat.le_add_right _ _
      · rw [z]; exact Nat.le_refl _
      · rw [z]; exact Nat.le_add_right _ _
    exact I1.fpOk hle (I1.hok.fresh hle)
  rcases q1 with ⟨a, b, xs, ys, rfl, q1⟩ | ⟨x, y, rfl, q⟩
  · cases r1 with
    | cons r rr =>
      cases rr with
      | cons r' rr =>
        cases rr
        cases r
        cases r'
        rcases q1 with ⟨hqx, hqy, q⟩ | ⟨hqx, hqy, q⟩
        · obtain ⟨its, rv, p1, _⟩ := I1.list hqx
          obtain ⟨its2, rv2, p2, _⟩ := I1.list hqy
          refine call_zip_2 p1.isList p2.isList fun h' hz hTI hTO h1 h2 hsz hk => wpAny_pyIter_zip hz ?_
          have I2 : Inv X pins σ H1 { s1 with heap := h' } := I1.kept (t' := s1.toks) hk
          exact ⟨s1.heap.objs.size + 4, [s1.heap.objs.size + 4, s1.heap.objs.size + 2, s1.heap.objs.size + 3, s1.heap.objs.size, s1.heap.objs.size + 1], _, _, H1, rfl, I2, turn_zip (PySem.W.ktu_apart s1.heap.objs.size a b p1.lt p2.lt), ⟨hz, hTI, ⟨_, _, hTO⟩, h1, h2⟩, fresh5, q⟩
        · obtain ⟨its, rv, p1, _⟩ := I1.tuple hqx
          obtain ⟨its2, rv2, p2, _⟩ := I1.tuple hqy
          obtain ⟨o1, ho1, _⟩ := id p1
          obtain ⟨o2, ho2, _⟩ := id p2
          refine RZ.call_zipT (show s1.heap.IsTuple a its.toArray from p1) (show s1.heap.IsTuple b its2.toArray from p2) fun h' hz hTI hTO h1 h2 hsz hk => wpAny_pyIter_zip hz ?_
          have I2 : Inv X pins σ H1 { s1 with heap := h' } := I1.kept (t' := s1.toks) hk
          exact ⟨s1.heap.objs.size + 4, [s1.heap.objs.size + 4, s1.heap.objs.size + 2, s1.heap.objs.size + 3, s1.heap.objs.size, s1.heap.objs.size + 1], _, _, H1, rfl, I2, RZ.turn_zipT (PySem.W.ktu_apart s1.heap.objs.size a b (Heap.lt_size ho1) (Heap.lt_size ho2)), ⟨hz, hTI, ⟨_, _, hTO⟩, h1, h2⟩, fresh5, q⟩
  · cases r1 with
    | cons r rr =>
      cases rr with
      | cons r' rr =>
        cases rr
        obtain ⟨t1, rfl⟩ := r
        obtain ⟨t2, rfl⟩ := r'
        refine zip_begins2 (begins_text x t1) (begins_text y t2) trivial trivial fun h' hz hTI hTO h1 h2 hsz hk => wpAny_pyIter_zip hz ?_
        have I2 : Inv X pins σ H1 { s1 with heap := h' } := I1.kept (t' := s1.toks) hk
        refine ⟨s1.heap.objs.size + 4, [s1.heap.objs.size + 4, s1.heap.objs.size + 2, s1.heap.objs.size + 3, s1.heap.objs.size, s1.heap.objs.size + 1], _, _, H1, rfl, I2, turn_zipS (t1 := t1) (t2 := t2) ?_, ⟨⟨Nat.zero_le _, Nat.zero_le _⟩, hz, hTI, ⟨_, _, hTO⟩, ⟨_, h1, rfl, rfl⟩, ⟨_, h2, rfl, rfl⟩⟩, fresh5, q⟩
        constructor <;> simp <;> omega
/-! zip by data -/
def pairD (l m : List D) : List D := (l.zip m).map fun q => .tup [q.1, q.2]
theorem pairD_get {l m : List D} {i : Nat} {x y : D} (h : l[i]? = some x) (k : m[i]? = some y) : (pairD l m)[i]? = some (.tup [x, y]) := by
  have e : (l.zip m)[i]? = some (x, y) := List.getElem?_zip_eq_some.mpr ⟨h, k⟩
  simp [pairD, e]
theorem pairD_len {l m : List D} : (pairD l m).length = min l.length m.length := by simp [pairD]
theorem itd_pair {F H : Hp} {J : It} {l m : List D} {xs ys : List V} (ra : RepA G F xs l) (rb : RepA G F ys m) (go : ∀ F1 H1 i, Same F F1 → Same F1 H1 → i < xs.length → i < ys.length → J.go i H1)
    (yl : ∀ F1 H1 i v H2, Same F F1 → Same F1 H1 → J.yld i H1 v H2 → ∃ T x y, v = .ref T ∧ H1 T = none ∧ H2 = upd H1 T (.tup [x, y]) ∧ xs[i]? = some x ∧ ys[i]? = some y)
    (st : ∀ F1 H1 i, Same F F1 → Same F1 H1 → xs.length ≤ i ∨ ys.length ≤ i → J.stop i H1) : ItD G J (pairD l m) F H where
  go := fun F1 H1 i a b c => by
    rw [pairD_len] at c
    exact go F1 H1 i a b (by have := ra.length; omega) (by have := rb.length; omega)
  yld := fun F1 H1 i v H2 a b q c => by
    obtain ⟨T, x, y, rfl, hT, rfl, hx, hy⟩ := yl F1 H1 i v H2 a b q
    obtain ⟨x', hx', rx⟩ := ra.getV hx
    obtain ⟨y', hy', ry⟩ := rb.getV hy
    have stp := Step.frozen (o := .tup [x, y]) b hT
    exact ⟨_, _, stp, pairD_get hx' hy', .tup (.of upd_same) (.cons ((rx.mono a).mono stp.ff) (.cons ((ry.mono a).mono stp.ff) .nil))⟩
  stop := fun F1 H1 i a b c => by
    rw [pairD_len] at c
    exact st F1 H1 i a b (by have := ra.length; have := rb.length; omega)
def zipD : List D → Option (List D)
  | [.lst l, .lst m] => some (pairD l m)
  | [.tup l, .tup m] => some (pairD l m)
  | [.str a, .str b] => some ((a.zip b).map fun q => .tup [.str [q.1], .str [q.2]])
  | _ => none
theorem itd_zipS {F H : Hp} {z w : Str} {a b : List Nat} (e : z.cps.toList = a) (k : w.cps.toList = b) : ItD G (ItzS z w) ((a.zip b).map fun q => .tup [.str [q.1], .str [q.2]]) F H := by
  subst e k
  refine ⟨fun F1 H1 i s1 s2 hlt => ?_, fun F1 H1 i v H2 s1 s2 y hlt => ?_, fun F1 H1 i s1 s2 hle => ?_⟩
  · have h : i < min z.cps.size w.cps.size := by simpa using hlt
    exact ⟨by omega, by omega⟩
  · obtain ⟨T, c, d, rfl, hT, rfl, hc, hd⟩ := y
    have stp := Step.frozen (o := .tup [.str ⟨#[c]⟩, .str ⟨#[d]⟩]) s2 hT
    refine ⟨_, .tup [.str [c], .str [d]], stp, ?_, .tup (.of upd_same) (.cons (.str rfl) (.cons (.str rfl) .nil))⟩
    have h : (z.cps.toList.zip w.cps.toList)[i]? = some (c, d) := List.getElem?_zip_eq_some.mpr ⟨by simpa using hc, by simpa using hd⟩
    simp [h]
  · have h : min z.cps.size w.cps.size ≤ i := by simpa using hle
    show z.cps.size ≤ i ∨ w.cps.size ≤ i
    omega
theorem mi_zip {e e2 : Expr} {r : List S → R (List HV)} {tpos : Pos} {elts : List Expr} {kk : Nat} (hK : X.K = G.K) (hg : Gl X "zip") (hm : X.mg "zip" = none) (ha : MA X G g W [e, e2] r)
    (hs : starEach [e, e2] X.env = (false, eval e X.env) :: starEach [e2] X.env := by rfl) (hpl : (backTo pos (starEach [e2] X.env)).any (·.1) = false := by rfl) :
    MI X G g W (.Tuple elts kk tpos) (.Call (.Name "zip" p) [e, e2] [] pos) (mSrc zipD r) :=
  pi_imp (pi_zipB hg hm ha hs hpl) fun σ H Rr h => by
  obtain ⟨F, ρ, I, k⟩ := tMI_src h
  refine ⟨F, ρ, I, k.imp fun F1 H1 ρ1 hs s1 I1 k1 vs rs => ?_⟩
  obtain ⟨F2, xs, l, s2, rt, e, k2⟩ := k1 vs rs
  rw [hK]
  unfold zipD at e
  split at e
  · cases e
    obtain ⟨v, u, rfl, rv, ru⟩ := Ra2 rt
    cases rv with
    | lst h1 r1 =>
      cases ru with
      | lst h2 r2 =>
        exact .inl ⟨_, _, _, _, rfl, .inl ⟨.of (s2 _ _ h1), .of (s2 _ _ h2), k2 _ (itd_pair r1 r2 (fun F3 H3 i a b c d => ⟨_, _, _, _, .of (b _ _ (a _ _ h1)), .of (b _ _ (a _ _ h2)), List.getElem?_eq_getElem c, List.getElem?_eq_getElem d⟩)
          (fun F3 H3 i v H4 a b ⟨T, x, y, e1, e2, e3, e4, e5⟩ => ⟨T, x, y, e1, e2, e3, e4 _ (.of (b _ _ (a _ _ h1))), e5 _ (.of (b _ _ (a _ _ h2)))⟩) fun F3 H3 i a b c => ⟨_, _, .of (b _ _ (a _ _ h1)), .of (b _ _ (a _ _ h2)), c⟩)⟩⟩
  · cases e
    obtain ⟨v, u, rfl, rv, ru⟩ := Ra2 rt
    cases rv with
    | tup h1 r1 =>
      cases ru with
      | tup h2 r2 =>
        exact .inl ⟨_, _, _, _, rfl, .inr ⟨sqT_same s2 h1, sqT_same s2 h2, k2 _ (itd_pair r1 r2 (fun F3 H3 i a b c d => ⟨_, _, _, _, sqT_same (a.trans b) h1, sqT_same (a.trans b) h2, List.getElem?_eq_getElem c, List.getElem?_eq_getElem d⟩)
          (fun F3 H3 i v H4 a b ⟨T, x, y, e1, e2, e3, e4, e5⟩ => ⟨T, x, y, e1, e2, e3, e4 _ (sqT_same (a.trans b) h1), e5 _ (sqT_same (a.trans b) h2)⟩) fun F3 H3 i a b c => ⟨_, _, sqT_same (a.trans b) h1, sqT_same (a.trans b) h2, c⟩)⟩⟩
  · cases e
    obtain ⟨v, u, rfl, rv, ru⟩ := Ra2 rt
    cases rv with
    | str h1 =>
      cases ru with
      | str h2 => exact .inr ⟨_, _, rfl, k2 _ (itd_zipS h1 h2)⟩
  · cases e
end
end MM
set_option Elab.async false
set_option maxRecDepth 100000
set_option maxHeartbeats 2000000
namespace MM
open PySem PySem.Spec PyProof.Rows L2
/-! ### helpers for printed texts -/
theorem takesF {X : Cx} : Takes X WF := fun u s' ⟨a, B, sI, pins, σ, H, cls, d, e, I, nb, up, sky, na, os, ag, w⟩ => w.elim
theorem Cal.of {P : Program} {w : World} {K : PySem.W.Frag} {mg : Str → Option Value} {base : Heap} {G : GG} {x qual : Str} {params : Arguments} {body : List Stmt} {scope : Scope} {dvs : List V} {kws : List (Str × V)} {f : Addr} {fd : FuncData} {ps : List Str} {k : Nat} {m : Fn}
    (F : FunD K x qual params body scope dvs kws f fd) (ok : FnOk P w K mg base (L2.CX P w) k f fd ps (spM G m ps.length)) (y : Str) (hm : mg y = some (.ref f)) (hb : Binds K fd ps []) : Cal P w K mg base G k y ps.length m :=
  ⟨f, fd, ps, ok, hm, F.kp, hb, rfl⟩
/-- a statement that no script reaches -/
def sBad : Sm := fun _ => .bad
def mBad : Ex := fun _ => .bad
theorem ms_bad {X : Cx} {G : GG} {g : Gh} {W : WX} {st : Stmt} : MS X G g W st sBad := ⟨fun pins s σ H D I ⟨F, ρ, J, k⟩ => k.elim⟩
theorem me_bad {X : Cx} {G : GG} {g : Gh} {W : WX} {e : Expr} : ME X G g W e mBad := ⟨fun pins s σ H D I ⟨F, ρ, J, k⟩ => k.elim⟩
def mBadT : List S → R Bool := fun _ => .bad
theorem mt_bad {X : Cx} {G : GG} {g : Gh} {W : WX} {e : Expr} : MT X G g W e mBadT := ⟨fun pins s σ H D I ⟨F, ρ, J, k⟩ => k.elim⟩
theorem me_strL {X : Cx} {G : GG} {g : Gh} {W : WX} {pos : Pos} {x : Str} {j} {l : List Nat} (h : x.cps.toList = l) : ME X G g W (.Constant (.str x) j pos) (mC (.str l)) := h ▸ me_str
theorem me_gint {X : Cx} {G : GG} {g : Gh} {W : WX} {pos : Pos} {x : Str} {i : Int} (hg : Gl X x) (hm : ∃ t, X.mg x = some (.int i t)) (hd : (x == ("__debug__" : Str)) = false := by decide) : ME X G g W (.Name x pos) (mC (.int i)) := by
  obtain ⟨t, hm⟩ := hm
  exact me_c (pe_glob (v := .int i) hg hm ⟨t, rfl⟩ hd) fun _ => .int _
theorem ints_rep {G : GG} {F : Hp} : ∀ ns : List Int, RepA G F (ns.map V.int) (ns.map D.int)
  | [] => .nil
  | n :: ns => .cons (.int n) (ints_rep ns)
/-- the heap without the tables of code -/
def noT (H : Hp) : Hp := fun a => match H a with
  | some (.tbl _) => none
  | o => o
theorem noT_same {H : Hp} : Same (noT H) H := fun a o e => by
  unfold noT at e
  split at e
  · cases e
  · exact e
theorem noT_nt {H : Hp} (a : Addr) (ps : Array Value) : noT H a ≠ some (.tbl ps) := fun e => by
  unfold noT at e
  split at e
  · cases e
  · rename_i h
    exact h ps e
theorem noT_at {H : Hp} {a : Addr} {o : HO} (e : H a = some o) (n : ∀ ps, o ≠ .tbl ps) : noT H a = some o := by
  unfold noT
  split
  · rename_i ps h
    rw [e] at h
    exact absurd (Option.some.inj h) (n ps)
  · exact e
theorem noT_seq {K : PySem.W.Frag} {H : Hp} {a : Addr} {xs : List V} (h : SqL K H a xs) : SqL K (noT H) a xs := by
  rcases h with (h | ⟨o, h⟩) | h
  · exact .inl (.inl (noT_at h fun ps z => by cases z))
  · exact .inl (.inr ⟨o, noT_at h fun ps z => by cases z⟩)
  · exact .inr h
theorem sp_law {G : GG} {m : Fn} (h : ∀ ns : List Int, ns.length ≤ 63 → ∃ ρ, m [.d (.ro (ns.map D.int))] = .rt (.d (.bl true)) ρ) (H : Hp) (a : Addr) (ns : List Int) (hl : ns.length ≤ 63) (hS : SqL G.K H a (ns.map V.int)) (hT : LamX.Tabs G.T H) :
    spM G m 1 [.ref a] H (fun v _ => v = .bl true) fun _ _ _ => False := by
  obtain ⟨ρ, e⟩ := h ns hl
  refine ⟨rfl, noT H, [.d (.ro (ns.map D.int))], noT_same, ⟨rfl, fun i x q => ?_, fun i x q => ?_, fun i x q => ?_, fun i j x y a' _ q => ?_, noT_nt, hT⟩, ?_⟩
  · match i, q with
    | 0, q => cases q; exact ⟨_, rfl, .ro (noT_seq hS) (ints_rep ns)⟩
    | i + 1, q => cases q
  · match i, q with
    | 0, q => cases q
    | i + 1, q => cases q
  · match i, q with
    | 0, q => cases q
    | i + 1, q => cases q
  · match i, q with
    | 0, q => cases q
    | i + 1, q => cases q
  · rw [e]
    intro F' H' v _ r
    cases r
    rfl
/-- what may be let out, at any world -/
def CXW (P : Program) : CXT := fun outer H s E u s' => ∃ w, L2.CX P w outer H s E u s'
theorem FnOk.cxw {P : Program} {w : World} {K : PySem.W.Frag} {mg : Str → Option Value} {base : Heap} {k : Nat} {f : Addr} {fd : FuncData} {ps : List Str} {sp : Sp} (F : FnOk P w K mg base (L2.CX P w) k f fd ps sp) : FnOk P w K mg base (CXW P) k f fd ps sp :=
  ⟨F.len, fun A outer s H args us vs Q E hr he hb hv hs => codeAny_mono (F.run A outer s H args us vs Q E hr he hb hv hs) fun r s' c => by
    cases r with
    | ok y => cases y <;> exact c
    | error e => exact ⟨w, c⟩⟩
theorem cxw_out {P : Program} (H : Hp) (s : Shared) (e : Value) (s' : Shared) (h : CXW P [] H s (fun _ _ _ => False) e s') : False := by
  obtain ⟨w, a, B, H', cls, d, _, _, _, _, _, _, _, h⟩ := h
  exact h
end MM
set_option Elab.async false
set_option maxRecDepth 100000
set_option maxHeartbeats 2000000
namespace MM
open PySem PySem.Spec PyProof.Rows L2
/-! ### f(e) where e makes a new object, which f may change and which nobody else holds -/
def mCallN (m : Fn) (f : Ex) : Ex := fun ρ => (f ρ).bind fun rv ρ1 => match rv with
  | .f x => (match m [.p x] with
    | .rt rv' _ => .ok rv' ρ1
    | .ex e _ => .ex e ρ1
    | .bad => .bad)
  | _ => .bad
section
variable {X : Cx} {G : GG} {g : Gh} {W : WX} {pos p : Pos}
theorem pm_new {x : D} {a b : Addr} {i : Nat} (h : PM [S.p x] [V.ref a] i = some b) : b = a := by
  cases i with
  | zero => cases h; rfl
  | succ j => cases h
theorem Good.callN {F H F' H' : Hp} {ρ ρf : List S} {σ : L2.St} {a : Addr} {x : D} (I : Good G g F ρ σ H) (h0 : Nw g.H a) (ap : ∀ (i : Nat) (s : S), ρ[i]? = some s → s.own ≠ none → σ[i]? ≠ some (some (V.ref a))) (nT : ∀ q ∈ g.T, q.1 ≠ a) (cp : CallPost G F H [S.p x] [V.ref a] ρf F' H') : Good G g F' ρ σ H' := by
  have stay : ∀ b o, H b = some o → b ≠ a → (∀ ps, o ≠ .tbl ps) → H' b = some o := fun b o e n t => cp.keep b o e (fun i q => n (pm_new q)) t
  have own : ∀ b y, F b = none → OwnAt G F H b y → b ≠ a → F' b = none ∧ OwnAt G F' H' b y := fun b y e1 ow n => by
    obtain ⟨o, ho⟩ := ow.there
    refine ⟨?_, ow.mono cp.ff ((stay b o ho n (ow.kind ho).1).trans ho.symm)⟩
    cases q : F' b with
    | none => rfl
    | some u =>
      rcases cp.fresh b (by rw [q]; simp) with z | z
      · exact absurd e1 z
      · exact (ow.nw z).elim
  exact {
    len := I.len
    fh := cp.fh
    f0 := I.f0.trans cp.ff
    keep := fun b o e q t => stay b o (I.keep b o e q t) (fun z => by
      rw [z] at e
      obtain ⟨ps, z2⟩ := h0 o e
      exact t ps z2) t
    nt := cp.nt
    tabs := cp.tabs
    fresh := fun b h => by
      rcases cp.fresh b h with z | z
      · exact I.fresh b z
      · exact .inr (newp I z).1
    dat := fun i y e => by
      obtain ⟨v, h1, h2⟩ := I.dat i y e
      exact ⟨v, h1, h2.mono cp.ff⟩
    obj := fun i y e => by
      obtain ⟨b, h1, h2, h3, h4⟩ := I.obj i y e
      have n : b ≠ a := fun z => ap i _ e (by simp [S.own]) (by rw [h1, z])
      obtain ⟨k1, k2⟩ := own b y h2 h3 n
      exact ⟨b, h1, k1, k2, h4⟩
    prm := fun i y e => by
      obtain ⟨b, h1, h2, h3, h4⟩ := I.prm i y e
      have n : b ≠ a := fun z => ap i _ e (by simp [S.own]) (by rw [h1, z])
      obtain ⟨k1, k2⟩ := own b y h2 h3 n
      exact ⟨b, h1, k1, k2, h4⟩
    par := I.par
    apart := I.apart
    tmp := fun q hq => by
      obtain ⟨h2, h3, h4, h5⟩ := I.tmp q hq
      obtain ⟨k1, k2⟩ := own q.1 q.2 h2 h3 (nT q hq)
      exact ⟨k1, k2, h4, h5⟩ }
theorem callN_go {m : Fn} {f : Ex} {σ : L2.St} {H : Hp} {Q : VK} (h : tM G g W (mCallN m f) σ H Q) : tCons (tM G g W f) tNil σ H fun vs H1 => spM G m 1 (vs ++ []) H1 Q (WE W σ) := by
  obtain ⟨F, ρ, I, k⟩ := h
  refine ⟨F, ρ, I, k.bind.imp fun F1 H1 ρ1 rv s1 I1 k1 v r => ?_⟩
  cases rv with
  | d x => exact k1.elim
  | r i => exact k1.elim
  | f x =>
    obtain ⟨a, rfl, n, h0, ow, ap, nT⟩ := r
    show spM G m 1 [V.ref a] H1 Q (WE W σ)
    refine ⟨rfl, F1, [.p x], I1.fh, ⟨rfl, fun i y q => ?_, fun i y q => ?_, fun i y q => ?_, fun i j y z b hij q q2 => ?_, I1.nt, I1.tabs⟩, ?_⟩
    · match i, q with
      | 0, q => cases q
      | i + 1, q => cases q
    · match i, q with
      | 0, q => cases q; exact ⟨a, rfl, n, ow⟩
      | i + 1, q => cases q
    · match i, q with
      | 0, q => cases q
      | i + 1, q => cases q
    · match i, j, q, q2 with
      | 0, 0, _, _ => exact absurd rfl hij
      | i + 1, _, q, _ => cases q
      | 0, j + 1, _, q2 => cases q2
    · dsimp only at k1
      cases q : m [.p x] with
      | bad => rw [q] at k1; exact k1.elim
      | rt rv' ρf =>
        rw [q] at k1
        intro F2 H2 v2 cp ro
        have I2 := I1.callN h0 ap nT cp
        refine k1 F2 H2 cp.ff I2 v2 ?_
        cases rv' with
        | d y => exact ro
        | r i => exact ro.elim
        | f y =>
          obtain ⟨b, rfl, n1, n2, ow2⟩ := ro
          obtain ⟨z1, z2, z3⟩ := newp I1 n1
          exact ⟨b, rfl, n2, z1, ow2, z2, z3⟩
      | ex e ρf =>
        rw [q] at k1
        exact fun F2 H2 cls d cp rx => k1 F2 H2 cls d cp.ff (I1.callN h0 ap nT cp) rx
theorem me_callN {x : Str} {e : Expr} {m : Fn} {f : Ex} {k j : Nat} (c : Cal X.prog X.w X.K X.mg X.base G k x 1 m) (hr : Room j X.A) (hk : k ≤ j) (hg : Gl X x) (tk : Takes X W) (ha : ME X G g W e f)
    (hdb : (x == ("__debug__" : Str)) = false := by decide) (hs : starEach [e] X.env = (false, eval e X.env) :: starEach [] X.env := by rfl) (hpl : (backTo pos (starEach [] X.env)).any (·.1) = false := by rfl) :
    ME X G g W (.Call (.Name x p) [e] [] pos) (mCallN m f) := by
  obtain ⟨fa, fd, ps, F, hm, hkp, hb, hn⟩ := c.ex
  rw [← hn] at F
  exact pe_imp (pe_callSD (E := fun σ => WE W σ) F (hr.mono hk) hg hm hkp hb .nil (fun σ => passAt tk σ) (pa_cons ha pa_nil hs) hdb hs hpl) fun _ _ _ => callN_go
end
end MM
set_option Elab.async false
set_option maxRecDepth 100000
set_option maxHeartbeats 2000000
namespace MM
open PySem PySem.Spec PyProof.Rows L2
/-! ### a list comprehension of two clauses -/
section
variable {G : GG} {g : Gh}
theorem lcM_loop {t : Tg} {vs : List Nat} {tt : List S → R Bool} {f : Ex} (ht : ∀ i ∈ t.ixs, i ∈ vs) {σ : L2.St} (hP : ∀ i a, g.P i = some a → i ∉ vs) {J : It} {items : List D} {F0 H0 Hs : Hp} {D0 : Addr} {acc0 ys : List D} {ρ0 ρe : List S}
    (hJ : ItD G J items F0 H0) (w3 : ∀ q ∈ g.T, q.1 ≠ D0) (J0 : Good G (g.addT (D0, .lst acc0)) F0 ρ0 (wipe σ vs) Hs) (qr : lcM t vs tt f items ρ0 = .ok ys ρe) (hz : acc0.length + ys.length ≤ sizeLine) (End : Hp → Prop)
    (hEnd : ∀ F1 H1, Same F0 F1 → Good G (g.addT (D0, .lst (acc0 ++ ys))) F1 ρe (wipe σ vs) H1 → End H1) :
    ∃ W1 : Nat → Nat → Hp → Prop, (∃ m, W1 0 m Hs) ∧ ∀ i m H, W1 i m H → (J.stop i H ∧ End H) ∨ (J.go i H ∧ ∃ Nx : Hp → Prop, (∀ H', Nx H' → ∃ m', m' < m ∧ W1 (i + 1) m' H') ∧ ∀ v H', J.yld i H v H' →
      tMGX G t v (wipe σ vs) H' fun σ2 H2 => wipe σ2 vs = wipe σ vs ∧ tMTX G WF tt σ2 H2 fun b H3 => if b = true then tMDX G WF (mForce f) σ2 H3 fun y H4 => ∃ acc, H4 D0 = some (.lst acc) ∧ acc.length < sizeLine ∧ Nx (upd H4 D0 (.lst (acc ++ [y]))) else Nx H3) := by
  refine ⟨fun i m H => m = items.length - i ∧ i ≤ items.length ∧ ∃ F1 ρ1 acc rest, Same F0 F1 ∧ Good G (g.addT (D0, .lst acc)) F1 ρ1 (wipe σ vs) H ∧ lcM t vs tt f (items.drop i) ρ1 = .ok rest ρe ∧ acc ++ rest = acc0 ++ ys,
    ⟨items.length, by simp, Nat.zero_le _, F0, _, acc0, ys, .refl _, J0, qr, rfl⟩, ?_⟩
  rintro i m H1 ⟨rfl, hi, F1, ρ1, acc, rest, s1, Ja, er, ey⟩
  have hF1 : Same F1 H1 := Ja.fh
  by_cases hlt : i < items.length
  · refine .inr ⟨hJ.go F1 H1 i s1 hF1 hlt, fun H' => ∃ F2 ρ2 acc2 rest2, Same F0 F2 ∧ Good G (g.addT (D0, .lst acc2)) F2 ρ2 (wipe σ vs) H' ∧ lcM t vs tt f (items.drop (i + 1)) ρ2 = .ok rest2 ρe ∧ acc2 ++ rest2 = acc0 ++ ys,
      fun H' h => ⟨items.length - (i + 1), by omega, rfl, hlt, h⟩, fun v H2 y => ?_⟩
    obtain ⟨F2, x, st, hx, r⟩ := hJ.yld F1 H1 i v H2 s1 hF1 y hlt
    have Jb := Ja.step st
    rw [List.drop_eq_getElem_cons hlt] at er
    have ex : items[i] = x := by
      rw [List.getElem?_eq_getElem hlt] at hx
      exact Option.some.inj hx
    rw [ex] at er
    unfold lcM at er
    cases q : t.put x ρ1 with
    | none => rw [q] at er; cases er
    | some ρ2 =>
      rw [q] at er
      dsimp only at er
      refine ⟨_, F2, ρ1, x, ρ2, Jb, r, q, fun σ2 Jc wq => ⟨?_, ?_⟩⟩
      · rw [wq vs ht, wipe_wipe]
      · cases q2 : tt ρ2 with
        | bad => rw [q2] at er; cases er
        | ex _ _ => rw [q2] at er; cases er
        | ok b ρ3 =>
          rw [q2] at er
          have er : (if b = true then (mForce f ρ3).bind fun y ρ3 => (lcM t vs tt f (items.drop (i + 1)) (wipeS ρ3 vs)).bind fun ys ρ4 => R.ok (y :: ys) ρ4
            else lcM t vs tt f (items.drop (i + 1)) (wipeS ρ3 vs)) = R.ok rest ρe := er
          have wσ : wipe σ2 vs = wipe σ vs := by rw [wq vs ht, wipe_wipe]
          refine ⟨g.addT (D0, .lst acc), F2, ρ2, Jc, ?_⟩
          rw [q2]
          intro F3 H3 s3 Jd
          cases b with
          | false =>
            rw [if_neg Bool.false_ne_true] at er ⊢
            have Je := Jd.wiped (vs := vs) hP
            rw [wσ] at Je
            exact ⟨F3, _, acc, rest, (s1.trans st.ff).trans s3, Je, er, ey⟩
          | true =>
            rw [if_pos rfl] at er ⊢
            cases q3 : mForce f ρ3 with
            | bad => rw [q3] at er; cases er
            | ex _ _ => rw [q3] at er; cases er
            | ok y ρ4 =>
              rw [q3] at er
              have er : ((lcM t vs tt f (items.drop (i + 1)) (wipeS ρ4 vs)).bind fun ys ρ5 => R.ok (y :: ys) ρ5) = R.ok rest ρe := er
              cases q4 : lcM t vs tt f (items.drop (i + 1)) (wipeS ρ4 vs) with
              | bad => rw [q4] at er; cases er
              | ex _ _ => rw [q4] at er; cases er
              | ok ys' ρ5 =>
                rw [q4] at er
                cases er
                refine ⟨g.addT (D0, .lst acc), F3, ρ3, Jd, ?_⟩
                rw [q3]
                intro F4 H4 s4 Je u ru
                obtain ⟨nF, ⟨xs, hx1, hx2⟩, h0, ap⟩ := Je.headT
                have hlen : xs.length = acc.length := hx2.length
                have hsz : acc.length + (ys'.length + 1) = acc0.length + ys.length := by
                  have := congrArg List.length ey
                  simpa using this
                refine ⟨xs, hx1, by omega, F4, wipeS ρ4 vs, acc ++ [y], ys', ((s1.trans st.ff).trans s3).trans s4, ?_, q4, by rw [← ey]; simp⟩
                have ow : OwnAt G F4 (upd H4 D0 (.lst (xs ++ [u]))) D0 (.lst (acc ++ [y])) := ⟨_, upd_same, hx2.append (.ones ru)⟩
                have Jf := (Je.changeT w3 ow).wiped (vs := vs) hP
                rw [wσ] at Jf
                exact Jf
  · have e : items.drop i = [] := List.drop_eq_nil_of_le (by omega)
    rw [e] at er
    cases er
    rw [List.append_nil] at ey
    subst ey
    exact .inl ⟨hJ.stop F1 H1 i s1 hF1 (by omega), hEnd F1 H1 s1 Ja⟩
theorem wipe_sub {σ : L2.St} {vs vs1 : List Nat} (h : ∀ i ∈ vs1, i ∈ vs) : wipe (wipe σ vs1) vs = wipe σ vs := by
  apply List.ext_getElem?
  intro j
  rw [wipe_get, wipe_get, wipe_get, wipe_length]
  by_cases h1 : j ∈ vs ∧ j < σ.length
  · rw [if_pos h1, if_pos h1]
  · rw [if_neg h1, if_neg h1, if_neg fun z => h1 ⟨h j z.1, z.2⟩]
def tMIX (G : GG) (f : List S → R (List D)) : TI := fun σ H Rr => ∃ g, tMI G g WF f σ H Rr
theorem pi_ex {X : Cx} {tg iter : Expr} {f : List S → R (List D)} (h : ∀ g, MI X G g WF tg iter f) : PI X tg iter (tMIX G f) := ⟨fun pins s σ H Rr I ⟨g, w⟩ => (h g).run pins s σ H Rr I w⟩
def lcM2 (t : Tg) (vs : List Nat) (tt : List S → R Bool) (it1 : List S → R (List D)) (t1 : Tg) (vs1 : List Nat) (tt1 : List S → R Bool) (f : Ex) : List D → List S → R (List D)
  | [], ρ => .ok [] ρ
  | x :: r, ρ => match t.put x ρ with
    | none => .bad
    | some ρ1 => (tt ρ1).bind fun b ρ2 => if b = true then (it1 ρ2).bind fun items1 ρ3 => (lcM t1 vs1 tt1 f items1 (wipeS ρ3 vs1)).bind fun ys ρ4 => (lcM2 t vs tt it1 t1 vs1 tt1 f r (wipeS ρ4 vs)).bind fun zs ρ5 => .ok (ys ++ zs) ρ5
      else lcM2 t vs tt it1 t1 vs1 tt1 f r (wipeS ρ2 vs)
def mLc2 (it : List S → R (List D)) (t : Tg) (vs : List Nat) (tt : List S → R Bool) (it1 : List S → R (List D)) (t1 : Tg) (vs1 : List Nat) (tt1 : List S → R Bool) (f : Ex) : Ex := fun ρ => (it ρ).bind fun items ρ1 => if hidOk ρ1 vs = true then (lcM2 t vs tt it1 t1 vs1 tt1 f items (wipeS ρ1 vs)).calm.bind fun ys ρ2 => if ys.length ≤ sizeLine then .ok (.f (.lst ys)) (backW ρ2 ρ1 vs) else .bad else .bad
theorem lc2_go {W : WX} {it it1 : List S → R (List D)} {t t1 : Tg} {vs vs1 : List Nat} {tt tt1 : List S → R Bool} {f : Ex} (ht : ∀ i ∈ t.ixs, i ∈ vs) (ht1 : ∀ i ∈ t1.ixs, i ∈ vs1) (hv : ∀ i ∈ vs1, i ∈ vs) {σ : L2.St} {H : Hp} {Q : VK} (k : tM G g W (mLc2 it t vs tt it1 t1 vs1 tt1 f) σ H Q) :
    tLc2 (tMI G g W it) (tMGX G t) (tMTX G WF tt) (tMIX G it1) (tMGX G t1) (tMTX G WF tt1) (tMDX G WF (mForce f)) vs vs1 σ H Q := by
  obtain ⟨F, ρ, I, k⟩ := k
  refine ⟨F, ρ, I, k.bind.imp fun F0 H0 ρ0 items s0 I0 k0 J hJ D0 nD => ?_⟩
  split at k0
  case isFalse => exact k0.elim
  rename_i ok
  cases qr : lcM2 t vs tt it1 t1 vs1 tt1 f items (wipeS ρ0 vs) with
  | bad => rw [qr] at k0; exact k0.elim
  | ex _ _ => rw [qr] at k0; exact k0.elim
  | ok ys ρe =>
    rw [qr] at k0
    have k0 : Post G g W F0 σ (if ys.length ≤ sizeLine then R.ok (RV.f (.lst ys)) (backW ρe ρ0 vs) else .bad) _ := k0
    split at k0
    case isFalse => exact k0.elim
    rename_i hz
    have nF0 : F0 D0 = none := I0.fh.free nD
    obtain ⟨w1, w2, w3⟩ := newp I0 (.of nD)
    have st0 : Step F0 H0 F0 (upd H0 D0 (.lst [])) := Step.new I0.fh nD
    have hP := I0.noPar ok
    have hP1 : ∀ i a, g.P i = some a → i ∉ vs1 := fun i a h z => hP i a h (hv i z)
    have I1 := (I0.step st0).wiped (vs := vs) hP
    have own1 : ∀ (i : Nat) (s : S), (wipeS ρ0 vs)[i]? = some s → s.own ≠ none → (wipe σ vs)[i]? ≠ some (some (V.ref D0)) := fun i s hi hs e => by
      rw [wipeS_get] at hi
      split at hi
      · cases hi
        exact hs rfl
      · exact w2 i s hi hs (wipe_some e).1
    have J0 : Good G (g.addT (D0, .lst [])) F0 (wipeS ρ0 vs) (wipe σ vs) (upd H0 D0 (.lst [])) := I1.addT nF0 w1 ⟨[], upd_same, .nil⟩ own1
    refine ⟨fun i m H => m = items.length - i ∧ i ≤ items.length ∧ ∃ F1 ρ1 acc rest, Same F0 F1 ∧ Good G (g.addT (D0, .lst acc)) F1 ρ1 (wipe σ vs) H ∧ lcM2 t vs tt it1 t1 vs1 tt1 f (items.drop i) ρ1 = .ok rest ρe ∧ acc ++ rest = ys,
      ⟨items.length, by simp, Nat.zero_le _, F0, _, [], ys, .refl _, J0, qr, rfl⟩, ?_⟩
    rintro i m H1 ⟨rfl, hi, F1, ρ1, acc, rest, s1, Ja, er, ey⟩
    have hF1 : Same F1 H1 := Ja.fh
    by_cases hlt : i < items.length
    · refine .inr ⟨hJ.go F1 H1 i s1 hF1 hlt, fun H' => ∃ F2 ρ2 acc2 rest2, Same F0 F2 ∧ Good G (g.addT (D0, .lst acc2)) F2 ρ2 (wipe σ vs) H' ∧ lcM2 t vs tt it1 t1 vs1 tt1 f (items.drop (i + 1)) ρ2 = .ok rest2 ρe ∧ acc2 ++ rest2 = ys,
        fun H' h => ⟨items.length - (i + 1), by omega, rfl, hlt, h⟩, fun v H2 y => ?_⟩
      obtain ⟨F2, x, st, hx, r⟩ := hJ.yld F1 H1 i v H2 s1 hF1 y hlt
      have Jb := Ja.step st
      rw [List.drop_eq_getElem_cons hlt] at er
      have ex : items[i] = x := by
        rw [List.getElem?_eq_getElem hlt] at hx
        exact Option.some.inj hx
      rw [ex] at er
      unfold lcM2 at er
      cases q : t.put x ρ1 with
      | none => rw [q] at er; cases er
      | some ρ2 =>
        rw [q] at er
        dsimp only at er
        refine ⟨_, F2, ρ1, x, ρ2, Jb, r, q, fun σ2 Jc wq => ⟨?_, ?_⟩⟩
        · rw [wq vs ht, wipe_wipe]
        · cases q2 : tt ρ2 with
          | bad => rw [q2] at er; cases er
          | ex _ _ => rw [q2] at er; cases er
          | ok b ρ3 =>
            rw [q2] at er
            have er : (if b = true then (it1 ρ3).bind fun items1 ρ3 => (lcM t1 vs1 tt1 f items1 (wipeS ρ3 vs1)).bind fun ys ρ4 => (lcM2 t vs tt it1 t1 vs1 tt1 f (items.drop (i + 1)) (wipeS ρ4 vs)).bind fun zs ρ5 => R.ok (ys ++ zs) ρ5
              else lcM2 t vs tt it1 t1 vs1 tt1 f (items.drop (i + 1)) (wipeS ρ3 vs)) = R.ok rest ρe := er
            have wσ : wipe σ2 vs = wipe σ vs := by rw [wq vs ht, wipe_wipe]
            refine ⟨g.addT (D0, .lst acc), F2, ρ2, Jc, ?_⟩
            rw [q2]
            intro F3 H3 s3 Jd
            cases b with
            | false =>
              rw [if_neg Bool.false_ne_true] at er ⊢
              have Je := Jd.wiped (vs := vs) hP
              rw [wσ] at Je
              exact ⟨F3, _, acc, rest, (s1.trans st.ff).trans s3, Je, er, ey⟩
            | true =>
              rw [if_pos rfl] at er ⊢
              cases q3 : it1 ρ3 with
              | bad => rw [q3] at er; cases er
              | ex _ _ => rw [q3] at er; cases er
              | ok items1 ρ4 =>
                rw [q3] at er
                have er : ((lcM t1 vs1 tt1 f items1 (wipeS ρ4 vs1)).bind fun ys ρ4 => (lcM2 t vs tt it1 t1 vs1 tt1 f (items.drop (i + 1)) (wipeS ρ4 vs)).bind fun zs ρ5 => R.ok (ys ++ zs) ρ5) = R.ok rest ρe := er
                cases q4 : lcM t1 vs1 tt1 f items1 (wipeS ρ4 vs1) with
                | bad => rw [q4] at er; cases er
                | ex _ _ => rw [q4] at er; cases er
                | ok ys1 ρ5 =>
                  rw [q4] at er
                  have er : ((lcM2 t vs tt it1 t1 vs1 tt1 f (items.drop (i + 1)) (wipeS ρ5 vs)).bind fun zs ρ5 => R.ok (ys1 ++ zs) ρ5) = R.ok rest ρe := er
                  cases q5 : lcM2 t vs tt it1 t1 vs1 tt1 f (items.drop (i + 1)) (wipeS ρ5 vs) with
                  | bad => rw [q5] at er; cases er
                  | ex _ _ => rw [q5] at er; cases er
                  | ok zs ρ6 =>
                    rw [q5] at er
                    cases er
                    refine ⟨g.addT (D0, .lst acc), F3, ρ3, Jd, ?_⟩
                    rw [q3]
                    intro F4 H4 s4 Je J1 hJ1
                    have sz : acc.length + ys1.length ≤ sizeLine := by
                      have := congrArg List.length ey
                      simp at this
                      omega
                    refine lcM_loop ht1 hP1 hJ1 w3 (Je.wiped (vs := vs1) hP1) q4 sz _ fun F5 H5 s5 Jf => ?_
                    have Jg := Jf.wiped (vs := vs) hP
                    rw [wipe_sub hv, wσ] at Jg
                    exact ⟨F5, _, acc ++ ys1, zs, (((s1.trans st.ff).trans s3).trans s4).trans s5, Jg, q5, by rw [← ey]; simp⟩
    · have e : items.drop i = [] := List.drop_eq_nil_of_le (by omega)
      rw [e] at er
      cases er
      refine .inl ⟨hJ.stop F1 H1 i s1 hF1 (by omega), ?_⟩
      rw [List.append_nil] at ey
      subst ey
      obtain ⟨nF, ow, h0, ap⟩ := Ja.headT
      have Ie := I0.unwiped ok s1 Ja.dropT
      refine k0 F1 H1 s1 Ie _ ⟨D0, rfl, nF, h0, ow, fun i s hi hs => ?_, w3⟩
      rw [backW_get] at hi
      split at hi
      · rename_i hm
        have := List.all_eq_true.mp ok i hm.1
        cases q : ρ0[i]? with
        | none => rw [q] at this; cases this
        | some s' =>
          rw [q] at this hi
          cases hi
          intro _
          cases s' with
          | un => exact hs rfl
          | d _ => exact hs rfl
          | o _ => cases this
          | p _ => cases this
      · rename_i hm
        have hl : i < ρe.length := (List.getElem?_eq_some_iff.mp hi).1
        have hj : i ∉ vs := fun z => hm ⟨z, hl⟩
        have z := ap i s hi hs
        rw [wipe_out hj] at z
        exact z
end
section
variable {X : Cx} {G : GG} {g : Gh} {W : WX} {pos p : Pos}
theorem me_lc2 {elt tg iter tg1 iter1 : Expr} {ifs ifs1 : List Expr} {scope : Scope} {own : List (Str × Nat)} {it it1 : List S → R (List D)} {t t1 : Tg} {vs1 : List Nat} {tt tt1 : List S → R Bool} {f : Ex} (hc : X.calm = true) (hN : X.N.Nodup) (hi : MI X G g W tg iter it) (ok : BlkOk X.N X.env.scope scope own) (hv : ∀ i ∈ vs1, i ∈ own.map (·.2)) (hx : ∀ i ∈ t.ixs, i ∈ own.map (·.2)) (hx1 : ∀ i ∈ t1.ixs, i ∈ vs1)
    (hg : ∀ (s : Shared) (H : Hp) (C : Addr) (cl : List (Str × Addr)) (fp : List Addr) (g : Gh), MG (X.blk s H scope (compEnvC scope cl C X.env) fp) G g tg t) (ht : ∀ (s : Shared) (H : Hp) (C : Addr) (cl : List (Str × Addr)) (fp : List Addr) (g : Gh), MTs (X.blk s H scope (compEnvC scope cl C X.env) fp) G g WF ifs tt)
    (hi1 : ∀ (s : Shared) (H : Hp) (C : Addr) (cl : List (Str × Addr)) (fp : List Addr) (g : Gh), MI (X.blk s H scope (compEnvC scope cl C X.env) fp) G g WF tg1 iter1 it1)
    (hg1 : ∀ (s : Shared) (H : Hp) (C : Addr) (cl : List (Str × Addr)) (fp : List Addr) (g : Gh), MG (X.blk s H scope (compEnvC scope cl C X.env) fp) G g tg1 t1) (ht1 : ∀ (s : Shared) (H : Hp) (C : Addr) (cl : List (Str × Addr)) (fp : List Addr) (g : Gh), MTs (X.blk s H scope (compEnvC scope cl C X.env) fp) G g WF ifs1 tt1)
    (he : ∀ (s : Shared) (H : Hp) (C : Addr) (cl : List (Str × Addr)) (fp : List Addr) (g : Gh), ME (X.blk s H scope (compEnvC scope cl C X.env) fp) G g WF elt f) (hs : ∀ x, foldedSetIterable iter X.env x = pure x := by intro _; rfl) (hs1 : ∀ env x, foldedSetIterable iter1 env x = pure x := by intro _ _; rfl) :
    ME X G g W (.ListComp elt [⟨tg, iter, ifs, 0⟩, ⟨tg1, iter1, ifs1, 0⟩] scope pos) (mLc2 it t (own.map (·.2)) tt it1 t1 vs1 tt1 f) :=
  pe_imp (pe_lc2 hc hN hi ok hv (fun s H C cl fp => pg_ex (hg s H C cl fp)) (fun s H C cl fp => pts_ex (ht s H C cl fp)) (fun s H C cl fp => pi_ex (hi1 s H C cl fp)) (fun s H C cl fp => pg_ex (hg1 s H C cl fp)) (fun s H C cl fp => pts_ex (ht1 s H C cl fp)) (fun s H C cl fp => pd_ex (he s H C cl fp)) hs hs1) fun _ _ _ => lc2_go hx hx1 hv
theorem ms_setLc2 {i : Nat} {y : Str} {py spos : Pos} {elt tg iter tg1 iter1 : Expr} {ifs ifs1 : List Expr} {scope : Scope} {own : List (Str × Nat)} {it it1 : List S → R (List D)} {t t1 : Tg} {vs1 : List Nat} {tt tt1 : List S → R Bool} {f : Ex} (hc : X.calm = true) (hN : X.N.Nodup) (hy : X.N[i]? = some y) (hyl : X.env.scope.names.lookup y = some .local)
    (hsw : swapsWith (.ListComp elt [⟨tg, iter, ifs, 0⟩, ⟨tg1, iter1, ifs1, 0⟩] scope pos) (some (.Name y py)) spos.line X.env = pure true) (hi : MI X G g W tg iter it) (ok : BlkOk X.N X.env.scope scope own) (hv : ∀ i ∈ vs1, i ∈ own.map (·.2)) (hx : ∀ i ∈ t.ixs, i ∈ own.map (·.2)) (hx1 : ∀ i ∈ t1.ixs, i ∈ vs1)
    (hg : ∀ (s : Shared) (H : Hp) (C : Addr) (cl : List (Str × Addr)) (fp : List Addr) (g : Gh), MG (X.blk s H scope (compEnvC scope cl C X.env) fp) G g tg t) (ht : ∀ (s : Shared) (H : Hp) (C : Addr) (cl : List (Str × Addr)) (fp : List Addr) (g : Gh), MTs (X.blk s H scope (compEnvC scope cl C X.env) fp) G g WF ifs tt)
    (hi1 : ∀ (s : Shared) (H : Hp) (C : Addr) (cl : List (Str × Addr)) (fp : List Addr) (g : Gh), MI (X.blk s H scope (compEnvC scope cl C X.env) fp) G g WF tg1 iter1 it1)
    (hg1 : ∀ (s : Shared) (H : Hp) (C : Addr) (cl : List (Str × Addr)) (fp : List Addr) (g : Gh), MG (X.blk s H scope (compEnvC scope cl C X.env) fp) G g tg1 t1) (ht1 : ∀ (s : Shared) (H : Hp) (C : Addr) (cl : List (Str × Addr)) (fp : List Addr) (g : Gh), MTs (X.blk s H scope (compEnvC scope cl C X.env) fp) G g WF ifs1 tt1)
    (he : ∀ (s : Shared) (H : Hp) (C : Addr) (cl : List (Str × Addr)) (fp : List Addr) (g : Gh), ME (X.blk s H scope (compEnvC scope cl C X.env) fp) G g WF elt f) (hs : ∀ x, foldedSetIterable iter X.env x = pure x := by intro _; rfl) (hs1 : ∀ env x, foldedSetIterable iter1 env x = pure x := by intro _ _; rfl) :
    MS X G g W (.Assign [.Name y py] (.ListComp elt [⟨tg, iter, ifs, 0⟩, ⟨tg1, iter1, ifs1, 0⟩] scope pos) spos) (sSet i (mLc2 it t (own.map (·.2)) tt it1 t1 vs1 tt1 f)) :=
  ps_imp (ps_setLc2 hc hN hy hyl hsw hi ok hv (fun s H C cl fp => pg_ex (hg s H C cl fp)) (fun s H C cl fp => pts_ex (ht s H C cl fp)) (fun s H C cl fp => pi_ex (hi1 s H C cl fp)) (fun s H C cl fp => pg_ex (hg1 s H C cl fp)) (fun s H C cl fp => pts_ex (ht1 s H C cl fp)) (fun s H C cl fp => pd_ex (he s H C cl fp)) hs hs1) fun D σ H k => lc2_go hx hx1 hv (set_go k)
/-! ### a starred part of a display -/
def seqL : D → Option (List D)
  | .lst l => some l
  | .tup l => some l
  | .ro l => some l
  | _ => none
def mStar (f : Ex) (r : List S → R (List HV)) : List S → R (List HV) := fun ρ => (mForce f ρ).bind fun x ρ1 => match seqL x with
  | some l => (r ρ1).bind fun hs ρ2 => .ok (l.map HV.d ++ hs) ρ2
  | none => .bad
theorem hvs_app {F : Hp} {σ : L2.St} : ∀ {xs : List V} {l : List D} {vs : List V} {hs : List HV}, RepA G F xs l → RepHs G F σ vs hs → RepHs G F σ (xs ++ vs) (l.map HV.d ++ hs)
  | _, _, _, _, .nil, r => r
  | _, _, _, _, .cons a b, r => .cons a (hvs_app b r)
theorem seqL_rep {F H : Hp} {v : V} {x : D} {l : List D} (s : Same F H) (r : Rep G F v x) (e : seqL x = some l) : ∃ a xs, v = .ref a ∧ (SqT G.K H a xs ∨ SqL G.K H a xs) ∧ RepA G F xs l := by
  cases r with
  | lst h ra => cases e; exact ⟨_, _, rfl, .inr (.of (s _ _ h)), ra⟩
  | tup h ra => cases e; exact ⟨_, _, rfl, .inl (sqT_same s h), ra⟩
  | ro h ra => cases e; exact ⟨_, _, rfl, .inr (s.seq h), ra⟩
  | non => cases e
  | bl => cases e
  | int => cases e
  | str => cases e
  | dic => cases e
  | ins => cases e
  | cls => cases e
theorem ma_star {e : Expr} {es : List Expr} {f : Ex} {r : List S → R (List HV)} (hK : X.K = G.K) (ha : ME X G g W e f) (hr : MA X G g W es r) (hs : starEach (.Starred e p :: es) X.env = (true, eval e X.env) :: starEach es X.env := by rfl) : MA X G g W (.Starred e p :: es) (mStar f r) :=
  pa_imp (StX.pa_star (me_force ha) hr hs) fun σ H Q ⟨F, ρ, I, k⟩ => ⟨F, ρ, I, k.bind.imp fun F1 H1 ρ1 x s1 I1 k1 v rv => by
    rw [hK]
    cases q : seqL x with
    | none => rw [q] at k1; exact k1.elim
    | some l =>
      rw [q] at k1
      obtain ⟨a, xs, rfl, sq, ra⟩ := seqL_rep I1.fh rv q
      exact ⟨a, xs, rfl, sq, F1, ρ1, I1, k1.bind.imp fun F2 H2 ρ2 hs s2 I2 k3 vs rvs => k3 F2 H2 (.refl _) I2 _ (hvs_app (ra.mono s2) rvs)⟩⟩
/-! ### repr of a bool -/
def reprD : List D → Option RV
  | [.bl b] => some (.d (.str (if b then [84, 114, 117, 101] else [70, 97, 108, 115, 101])))
  | _ => none
theorem call_reprB : CallR X (.builtin "repr") (fun xs H Q => ∃ b, xs = [.bl b] ∧ Q (.str (if b then "True" else "False")) H) := fun pins s σ H xs us Q I r h => by
  obtain ⟨b, rfl, q⟩ := h
  cases r with
  | cons ru rn =>
    cases rn
    have ru : _ = Value.bool b := ru
    subst ru
    exact PySem.P.repr_of_bool ⟨.str _, H, I.tok _, ⟨_, rfl⟩, q⟩
theorem c_repr : CallR X (.builtin "repr") (rCD G reprD) := callr_of call_reprB fun vs H Q ⟨F, xs, rv, s, rs, e, k⟩ => by
  unfold reprD at e
  split at e
  · rename_i b
    cases e
    obtain ⟨v, rfl, rv⟩ := Ts1 rs
    rcases rv with rv | ⟨a, _, h⟩
    · cases rv
      refine ⟨b, rfl, k F H _ (Step.refl s) ?_⟩
      cases b with
      | true => exact .str (by decide +kernel)
      | false => exact .str (by decide +kernel)
    · exact h.elim
  · cases e
/-! ### an empty dict -/
def mDict0 : Ex := fun ρ => .ok (.f (.dic [])) ρ
theorem me_dict0 : ME X G g W (.Dict [] [] pos) mDict0 := pe_imp pe_dnewK fun σ H Q ⟨F, ρ, I, k⟩ => fun q nq => by
  have st := Step.new (o := .dK []) I.fh nq
  have ro : RepO G H F (upd H q (.dK [])) (.ref q) (.f (.dic [])) := ⟨q, rfl, .of nq, I.fh.free nq, [], upd_same, .nil⟩
  exact k F _ (.refl _) (I.step st) _ (ro.toV I st)
end
end MM
set_option Elab.async false
set_option maxRecDepth 100000
set_option maxHeartbeats 2000000
namespace MM
open PySem PySem.Spec PyProof.Rows L2
/-! ### own exceptions without an own __init__: raised, caught -/
def vBase : List Value := [.type "ValueError", .type "Exception", .type "BaseException", .type "object"]
/-- what is known of an own class of exceptions -/
structure ExcF (K : PySem.W.Frag) (mg : Str → Option Value) (cls : Str → Option Addr) (x : Str) : Prop where
  ex : ∃ C, cls x = some C ∧ mg x = some (.ref C) ∧ PySem.W.excIn K C vBase "ValueError.__new__" = true ∧ PySem.W.keepIn K (.ref C) = true ∧ PySem.W.subIn K (.ref C) (.type "BaseException") = some true ∧ PySem.W.typeIn K (.ref C) = some (.type "type")
theorem ExcF.at_ {K : PySem.W.Frag} {mg : Str → Option Value} {cls : Str → Option Addr} {x : Str} (e : ExcF K mg cls x) : cls x = some (Classical.choose e.ex) := (Classical.choose_spec e.ex).1
theorem ExcF.at2_ {K : PySem.W.Frag} {mg : Str → Option Value} {cls : Str → Option Addr} {x : Str} (e : ExcF K mg cls x) : mg x = some (.ref (Classical.choose e.ex)) := (Classical.choose_spec e.ex).2.1
theorem hpF {M : Model} {A : Around} {env : Env} : PassesOwn M A env (fun _ _ => False) := PassesOwn.never
def sRaise (x : Str) : Sm := fun ρ => .ex ⟨x, []⟩ ρ
section
variable {X : Cx} {G : GG} {g : Gh} {W : WX} {pos p : Pos}
theorem ms_raise {x m : Str} {j : Nat} {p2 pos' : Pos} (hc : X.calm = true) (tk : Takes X W) (e : ExcF X.K X.mg G.cls x) (hg : Gl X x) (hdb : (x == ("__debug__" : Str)) = false := by decide) :
    MS X G g W (.Raise (some (.Call (.Name x p) [.Constant (.str m) j p2] [] pos)) none pos') (sRaise x) := by
  obtain ⟨C, c1, c2, c3, c4, c5, c6⟩ := e.ex
  exact ps_imp (ps_raise hc tk (pmk_own PySem.F.excBase_ValueError c3 c2 c4 (raises_own c5 c6) hg hdb)) fun D σ H ⟨F, ρ, I, k⟩ =>
    k F H σ (.ref C) none (.refl _) I ⟨C, c1, rfl, .inl ⟨rfl, rfl⟩⟩
end
/-- the clauses, one after the other -/
def hdM (sub : Str → Str → Bool) : List (Str × Sm) → Exn → List S → Out
  | [], e, ρ => .ex e ρ
  | (x, m) :: r, e, ρ => if sub e.c x = true then m ρ else hdM sub r e ρ
def sTry (sub : Str → Str → Bool) (b : Sm) (hs : List (Str × Sm)) : Sm := fun ρ => match b ρ with
  | .ex e ρ1 => hdM sub hs e ρ1
  | o => o
/-- which class catches which -/
structure SubF (K : PySem.W.Frag) (cls : Str → Option Addr) (sub : Str → Str → Bool) (names : List Str) : Prop where
  ok : ∀ c x C Dd, cls c = some C → x ∈ names → cls x = some Dd → PySem.W.exmOne K (.ref C) (.ref Dd) = some (sub c x)
inductive MHs (X : Cx) (G : GG) (g : Gh) (names : List Str) : List ExceptHandler → List (Str × Sm) → List (Value × (Addr → Value → Option Addr → TS)) → Prop
  | nil : MHs X G g names [] [] []
  | cons {x : Str} {m : Sm} {b₀ : Stmt} {suite : List Stmt} {np pos' : Pos} {hds : List ExceptHandler} {hs : List (Str × Sm)} {l : List (Value × (Addr → Value → Option Addr → TS))} {C : Addr} (hx : x ∈ names) (hC : G.cls x = some C) (hn : Names X x (.ref C))
      (hsu : ∀ (a : Addr) (oe : Obj) (pn : List (Addr × Obj)), MSs (X.suite a ((a, oe) :: pn)) G g WF (b₀ :: suite) m) (r : MHs X G g names hds hs l) :
      MHs X G g names (.ExceptHandler (some (.Name x np)) none (b₀ :: suite) pos' :: hds) ((x, m) :: hs) ((.ref C, fun _ _ _ => tMS G g WF m) :: l)
section
variable {X : Cx} {G : GG} {g : Gh} {W : WX} {pos p : Pos} {names : List Str}
theorem MHs.ok {hds : List ExceptHandler} {hs : List (Str × Sm)} {l : List (Value × (Addr → Value → Option Addr → TS))} (h : MHs X G g names hds hs l) : HdsOk X hds l := by
  induction h with
  | nil => exact .nil
  | cons hx hC hn hsu r ih => exact .cons hn (fun a oe cls d pn _ _ => hsu a oe pn) ih
theorem wf_of {D : Ends} {F : Hp} {o : Out} (h : PostS G g W F o D) : PostS G g W F o D := h
/-- what the handlers are asked: nothing is raised in them -/
def noEx : Out → Bool
  | .ex _ _ => false
  | _ => true
def sTry' (sub : Str → Str → Bool) (b : Sm) (hs : List (Str × Sm)) : Sm := fun ρ => match b ρ with
  | .ex e ρ1 => (match hdM sub hs e ρ1 with
    | .ex e' ρ' => if hs.all (fun q => !sub e.c q.1) = true then .ex e' ρ' else .bad
    | o => o)
  | o => o
theorem hs_go {sub : Str → Str → Bool} {hds : List ExceptHandler} {hs : List (Str × Sm)} {l : List (Value × (Addr → Value → Option Addr → TS))} (sf : SubF X.K G.cls sub names) (h : MHs X G g names hds hs l) {D : Ends} {e : Exn} {ρ : List S} {F : Hp} {σ : L2.St} {H : Hp} {cls : Value} {d : Option Addr}
    (I : Good G g F ρ σ H) (rx : RepX G F cls d e) (k : PostS G g W F (match hdM sub hs e ρ with
    | .ex e' ρ' => if hs.all (fun q => !sub e.c q.1) = true then .ex e' ρ' else .bad
    | o => o) D) : wMany X.K W D l cls d σ H := by
  induction h with
  | nil => exact k F H σ cls d (.refl _) I rx
  | @cons x m b₀ suite np pos' hds hs l C hx hC hn hsu r ih =>
    obtain ⟨Ce, c1, rfl, c2⟩ := id rx
    refine ⟨sub e.c x, sf.ok _ _ _ _ c1 hx hC, fun hb a ha => ?_, fun hb => ?_⟩
    · unfold hdM at k
      rw [if_pos hb] at k
      refine ⟨F, ρ, I, ?_⟩
      cases q : m ρ with
      | ex e' ρ' =>
        rw [q] at k
        have : ((x, m) :: hs).all (fun q => !sub e.c q.1) = false := by
          rw [List.all_cons, hb]
          rfl
        dsimp only at k
        rw [this] at k
        exact k.elim
      | bad => rw [q] at k; exact k
      | nx ρ' => rw [q] at k; exact k
      | rt rv ρ' => rw [q] at k; exact k
      | bk ρ' => rw [q] at k; exact k
      | ct ρ' => rw [q] at k; exact k
    · refine ih ?_
      unfold hdM at k
      rw [if_neg (by rw [hb]; exact Bool.false_ne_true)] at k
      have : ((x, m) :: hs).all (fun q => !sub e.c q.1) = hs.all (fun q => !sub e.c q.1) := by
        rw [List.all_cons, hb]
        rfl
      rw [this] at k
      exact k
theorem ms_try {sub : Str → Str → Bool} {body : List Stmt} {h₀ : ExceptHandler} {hds : List ExceptHandler} {b : Sm} {hs : List (Str × Sm)} {l : List (Value × (Addr → Value → Option Addr → TS))} (sf : SubF X.K G.cls sub names) (hst : X.stack = X.env :: X.outer) (hf : X.env.frame = some X.env.locals) (tk : Takes X W)
    (hb : ∀ (W : WX) (pn : List (Addr × Obj)) (xe : Value → Shared → Prop), Takes (X.tr pn xe) W → PassesOwn (model X.prog X.w) X.A X.env xe → MSs (X.tr pn xe) G g W body b)
    (hh : MHs X G g names (h₀ :: hds) hs l) : MS X G g W (.Try body (h₀ :: hds) [] [] pos) (sTry' sub b hs) :=
  ps_imp (ps_try_many (tb := fun W => tMS G g W b) hst hf tk hb hh.ok) fun D σ H ⟨F, ρ, I, k⟩ => by
    refine ⟨F, ρ, I, ?_⟩
    unfold sTry' at k
    cases q : b ρ with
    | bad => rw [q] at k; exact k
    | nx ρ' => rw [q] at k; exact k
    | rt rv ρ' => rw [q] at k; exact k
    | bk ρ' => rw [q] at k; exact k
    | ct ρ' => rw [q] at k; exact k
    | ex e ρ' =>
      rw [q] at k
      exact fun F1 H1 σ1 cls d s1 I1 rx => hs_go sf hh I1 rx (PostS.mono k s1)
end
/-! ### the classes of a text, by their names -/
def clsOf (names : List Str) (K : PySem.W.Frag) : Str → Option Addr := fun x => if names.contains x = true then some (He.ga K x) else none
theorem clsOf_at {names : List Str} {K : PySem.W.Frag} {x : Str} (h : names.contains x = true) : clsOf names K x = some (He.ga K x) := if_pos h
theorem SubF.of {names : List Str} {K : PySem.W.Frag} {sub : Str → Str → Bool} (h : ∀ c ∈ names, ∀ x ∈ names, PySem.W.exmOne K (.ref (He.ga K c)) (.ref (He.ga K x)) = some (sub c x)) : SubF K (clsOf names K) sub names := ⟨fun c x C Dd h1 hx h2 => by
  unfold clsOf at h1 h2
  split at h1
  · rename_i hc
    cases h1
    split at h2
    · cases h2
      exact h c (List.contains_iff_mem.mp hc) x hx
    · cases h2
  · cases h1⟩
theorem ExcF.of {names : List Str} {K : PySem.W.Frag} {h : Heap} {mg : Str → Option Value} {x : Str} (X : K.In h) (N : h.Ns mainGlobals mg) (hx : names.contains x = true) (g : (He.Fa.glo x).ok K = true) (e : (He.Fa.exc x).ok K = true) : ExcF K mg (clsOf names K) x := by
  obtain ⟨c1, c2, c3, c4⟩ := He.exc_ok e
  exact ⟨_, clsOf_at hx, He.glo_ok X N g, c1, c2, c3, c4⟩
end MM
set_option Elab.async false
set_option maxRecDepth 100000
set_option maxHeartbeats 2000000
namespace MM
open PySem PySem.Spec PyProof.Rows L2
/-! ### fields of own instances -/
/-- of the classes cs the instances' field f is a plain one -/
structure FldF (K : PySem.W.Frag) (cls : Str → Option Addr) (cs : List Str) (f : Str) : Prop where
  ok : ∀ c C, c ∈ cs → cls c = some C → Cls K C ∧ NoAttr K C f
def mFld (cs : List Str) (f : Str) (a : Ex) : Ex := fun ρ => (mHold a ρ).bind fun h ρ1 => match peekH ρ1 h with
  | some (.ins c es) => if cs.contains c = true then (match es.lookup f with
    | some x => .ok (.d x) ρ1
    | none => .bad) else .bad
  | _ => .bad
theorem RepF.look {G : GG} {F : Hp} {f : Str} {x : D} : ∀ {fs : List (Str × V)} {es : List (Str × D)}, RepF G F fs es → es.lookup f = some x → ∃ v, fs.lookup f = some v ∧ Rep G F v x
  | _, _, .nil, e => by cases e
  | _, _, .cons (k := k) (v := v) (d := d) h r, e => by
    rw [List.lookup_cons] at e
    rw [List.lookup_cons]
    cases q : (f == k) with
    | true =>
      rw [q] at e
      have e := Option.some.inj e
      subst e
      exact ⟨v, rfl, h⟩
    | false =>
      rw [q] at e
      exact r.look e
section
variable {X : Cx} {G : GG} {g : Gh} {W : WX} {pos p : Pos}
theorem me_fld {cs : List Str} {f : Str} {e : Expr} {a : Ex} (hK : X.K = G.K) (ff : FldF X.K G.cls cs f) (he : ME X G g W e a) (hb : attributeBase e f X.env (eval e X.env) = eval e X.env := by rfl) : ME X G g W (.Attribute e f pos) (mFld cs f a) :=
  pe_imp (pe_fld (me_hold he) hb) fun σ H Q ⟨F, ρ, I, k⟩ => ⟨F, ρ, I, k.bind.imp fun F1 H1 ρ1 h s1 I1 k1 v r => by
    cases q : peekH ρ1 h with
    | none => rw [q] at k1; exact k1.elim
    | some y =>
      rw [q] at k1
      have rt := peekH_rep I1 r q
      cases y with
      | ins c es =>
        dsimp only at k1
        split at k1
        · rename_i hc
          cases q2 : es.lookup f with
          | none => rw [q2] at k1; exact k1.elim
          | some x =>
            rw [q2] at k1
            rcases rt with rt | ⟨b, rfl, ow⟩
            · cases rt with
              | ins h0 h1 h2 =>
                obtain ⟨u, l1, l2⟩ := h2.look q2
                obtain ⟨c1, c2⟩ := ff.ok c _ (List.contains_iff_mem.mp hc) h0
                exact ⟨_, _, _, _, u, rfl, I1.fh _ _ h1, c1, c2, l1, k1 F1 H1 (.refl _) I1 u l2⟩
            · obtain ⟨C, dx, fs, h0, h1, h2⟩ := ow
              obtain ⟨u, l1, l2⟩ := h2.look q2
              obtain ⟨c1, c2⟩ := ff.ok c _ (List.contains_iff_mem.mp hc) h0
              exact ⟨_, _, _, _, u, rfl, h1, c1, c2, l1, k1 F1 H1 (.refl _) I1 u l2⟩
        · exact k1.elim
      | _ => exact k1.elim⟩
/-! ### x.f = e, x an own instance of the slot -/
def putE (f : Str) (y : D) : List (Str × D) → List (Str × D)
  | [] => [(f, y)]
  | (g, x) :: r => if g = f then (g, y) :: r else (g, x) :: putE f y r
theorem RepF.put {F : Hp} {f : Str} {v : V} {y : D} (rv : Rep G F v y) : ∀ {fs : List (Str × V)} {es : List (Str × D)}, RepF G F fs es → RepF G F (putF f v fs) (putE f y es)
  | _, _, .nil => .cons rv .nil
  | _, _, .cons (k := k) h r => by
    unfold putF putE
    split
    · exact .cons rv r
    · exact .cons h (RepF.put rv r)
theorem RepF.length {F : Hp} : ∀ {fs : List (Str × V)} {es : List (Str × D)}, RepF G F fs es → fs.length = es.length
  | _, _, .nil => rfl
  | _, _, .cons h r => by rw [List.length_cons, List.length_cons, r.length]
def sFldSet (cs : List Str) (i : Nat) (f : Str) (e : Ex) : Sm := fun ρ => Out.of (mForce e ρ) fun y ρ1 => match ρ1[i]? with
  | some s => (match s.own with
    | some (.ins c es) => if cs.contains c = true ∧ es.length < 1000 then .nx (ρ1.set i (s.chg (.ins c (putE f y es)))) else .bad
    | _ => .bad)
  | none => .bad
theorem ms_fldSet {cs : List Str} {i : Nat} {x f : Str} {np tp : Pos} {e : Expr} {h : Ex} (ff : FldF X.K G.cls cs f) (ho : PE X (.Name x np) (tVar i)) (he : ME X G g W e h)
    (hs : swapsWith e (some (.Attribute (.Name x np) f tp)) pos.line X.env = pure false := by rfl) : MS X G g W (.Assign [.Attribute (.Name x np) f tp] e pos) (sFldSet cs i f h) :=
  ps_imp (ps_fld ho (me_force he) hs) fun Dd σ H ⟨F, ρ, I, k⟩ => by
    refine ⟨F, ρ, I, (PostS.of k).imp fun F1 H1 ρ1 y s1 I1 k1 v rv => ?_⟩
    cases q0 : ρ1[i]? with
    | none => rw [q0] at k1; exact k1.elim
    | some s =>
      rw [q0] at k1
      dsimp only at k1
      cases q1 : s.own with
      | none => rw [q1] at k1; exact k1.elim
      | some z =>
        rw [q1] at k1
        cases z with
        | ins c es =>
          dsimp only at k1
          split at k1
          · rename_i hc
            obtain ⟨a, e1, nF, ow⟩ := I1.own q0 q1
            obtain ⟨C, dx, fs, h0, h1, h2⟩ := ow
            obtain ⟨c1, c2⟩ := ff.ok c _ (List.contains_iff_mem.mp hc.1) h0
            refine ⟨.ref a, e1, a, C, dx, fs, rfl, h1, c1, c2, by rw [h2.length]; exact hc.2, ?_⟩
            exact k1 F1 _ σ (.refl _) (I1.change q0 q1 e1 ⟨C, dx, _, h0, upd_same, h2.put rv⟩)
          · exact k1.elim
        | _ => exact k1.elim
end
end MM
set_option Elab.async false
set_option maxRecDepth 100000
set_option maxHeartbeats 2000000
namespace MM
open PySem PySem.Spec PyProof.Rows L2
/-! ### own instances made; exceptions may leave __init__ -/
section
variable {X : Cx} {CX : CXT} {k : Nat} {f C : Addr} {fd : FuncData} {ps : List Str} {sp : Sp} {dvs : List V} {ds : List Value} {x : Str} {p pos : Pos} {e : Expr} {es : List Expr} {t : TA}
theorem made_run {E : XK} {pins : List (Addr × Obj)} {σ : L2.St} {H : Hp} {s : Shared} {Q : VK} {us : List Value} {vs : List V} (mk : Mk X.K C f) (fo : FnOk X.prog X.w X.K X.mg X.base CX k f fd ps sp) (hr : Room (k + 1) X.A) (hb : Binds X.K fd ps ds) (hd : Vals dvs ds)
    (hx : PassesAt CX X σ E) (I : Inv X pins σ H s) (r : Vals vs us)
    (h : ∀ a dx, H a = none → H dx = none → dx ≠ a → sp (.ref a :: (vs ++ dvs)) (upd (upd H dx (.own a)) a (.ins C dx [])) (fun v H2 => v = .non ∧ Q (.ref a) H2) E) :
    wpAny (model X.prog X.w) X.A (call (.ref C) us) (EP X pins σ Q) X.xe s := by
  let n := s.heap.objs.size
  have hq := h (n + 1) n (I.hok.fresh (Nat.le_succ _)) (I.hok.fresh (Nat.le_refl _)) (Nat.ne_of_lt (Nat.lt_succ_self _))
  have I2 := Inv.made (C := C) I
  have rs : Vals (V.ref (n + 1) :: (vs ++ dvs)) (Value.ref (n + 1) :: (us ++ ds)) := .cons rfl (r.append hd)
  have hl : (Value.ref (n + 1) :: us ++ ds).length = ps.length := (fo.len _ _ _ _ hq ▸ rs.length).symm
  have run := fo.run _ X.stack _ _ ⟨Value.ref (n + 1) :: us, []⟩ (Value.ref (n + 1) :: (us ++ ds)) _ _ E (hr.make C us []) (I2.env0.make C us []) (hb _ (Value.ref (n + 1) :: us) I2.kIn hl) rs hq
  refine wpAny_call (make_map (f := f) I.kIn mk.makes mk.init (beq_iff_eq.mp mk.fn) (codeAny_mono run fun q s' hq' => ?_))
  cases q with
  | error u => exact hx pins _ _ u s' I2 hq'
  | ok fl =>
    cases fl with
    | ret u =>
      obtain ⟨v, H', I3, rv, ev, q3⟩ := I2.after hq'
      subst ev
      exact ⟨rv, ⟨V.ref (n + 1), H', I3, rfl, q3⟩⟩
    | next => exact False.elim hq'
    | brk => exact False.elim hq'
    | cont => exact False.elim hq'
def tMade (C : Addr) (sp : Sp) (dvs : List V) (E : L2.St → XK) (t : TA) : TE := fun σ H Q => t σ H fun vs H1 => ∀ a dx, H1 a = none → H1 dx = none → dx ≠ a →
  sp (.ref a :: (vs ++ dvs)) (upd (upd H1 dx (.own a)) a (.ins C dx [])) (fun v H2 => v = .non ∧ Q (.ref a) H2) (E σ)
theorem pe_made {E : L2.St → XK} (mk : Mk X.K C f) (fo : FnOk X.prog X.w X.K X.mg X.base CX k f fd ps sp) (hr : Room (k + 1) X.A) (hg : Gl X x) (hm : X.mg x = some (.ref C)) (hb : Binds X.K fd ps ds) (hd : Vals dvs ds) (hx : ∀ σ, PassesAt CX X σ (E σ))
    (ha : PA X (e :: es) t) (hdb : (x == ("__debug__" : Str)) = false := by decide) (he : starEach (e :: es) X.env = (false, eval e X.env) :: starEach es X.env := by rfl) (hpl : (backTo pos (starEach es X.env)).any (·.1) = false := by rfl) :
    PE X (.Call (.Name x p) (e :: es) [] pos) (tMade C sp dvs E t) := ⟨fun pins s σ H Q I h =>
  wpAny_Call_Name_kw (ld_glob I hg hm (PySem.W.callWith_K (h₀ := X.base) I.ok.mod.kin mk.kp (thn (ha.run pos pins s σ H _ I h) fun us s1 ⟨vs, H1, I1, r, q⟩ => ⟨I1.kIn, made_run mk fo hr hb hd (hx σ) I1 r q⟩) he hpl) hdb)⟩
end
/-- the mirror: dv, the defaults' data -/
def mMake (n : Nat) (c : Str) (m : Fn) (dv : List D) (r : List S → R (List HV)) : Ex := fun ρ => (r ρ).bind fun hs ρ1 => (forceHs hs ρ1).bind fun xs ρ2 => if (xs ++ dv).length + 1 = n then (match m (S.p (.ins c []) :: (xs ++ dv).map S.d) with
  | .rt (.d .non) ρf => (match ρf[0]? with
    | some (S.p y) => .ok (.f y) ρ2
    | _ => .bad)
  | .ex e _ => .ex e ρ2
  | _ => .bad) else .bad
section
variable {X : Cx} {G : GG} {g : Gh} {W : WX} {pos p : Pos}
theorem Good.callA {F H F' H' : Hp} {ρ ρf ss : List S} {vs : List V} {σ : L2.St} {a : Addr} (I : Good G g F ρ σ H) (h0 : Nw g.H a) (ap : ∀ (i : Nat) (s : S), ρ[i]? = some s → s.own ≠ none → σ[i]? ≠ some (some (V.ref a))) (nT : ∀ q ∈ g.T, q.1 ≠ a) (pm : ∀ i b, PM ss vs i = some b → b = a) (cp : CallPost G F H ss vs ρf F' H') : Good G g F' ρ σ H' := by
  have stay : ∀ b o, H b = some o → b ≠ a → (∀ ps, o ≠ .tbl ps) → H' b = some o := fun b o e n t => cp.keep b o e (fun i q => n (pm i b q)) t
  have own : ∀ b y, F b = none → OwnAt G F H b y → b ≠ a → F' b = none ∧ OwnAt G F' H' b y := fun b y e1 ow n => by
    obtain ⟨o, ho⟩ := ow.there
    refine ⟨?_, ow.mono cp.ff ((stay b o ho n (ow.kind ho).1).trans ho.symm)⟩
    cases q : F' b with
    | none => rfl
    | some u =>
      rcases cp.fresh b (by rw [q]; simp) with z | z
      · exact absurd e1 z
      · exact (ow.nw z).elim
  exact {
    len := I.len
    fh := cp.fh
    f0 := I.f0.trans cp.ff
    keep := fun b o e q t => stay b o (I.keep b o e q t) (fun z => by
      rw [z] at e
      obtain ⟨ps, z2⟩ := h0 o e
      exact t ps z2) t
    nt := cp.nt
    tabs := cp.tabs
    fresh := fun b h => by
      rcases cp.fresh b h with z | z
      · exact I.fresh b z
      · exact .inr (newp I z).1
    dat := fun i y e => by
      obtain ⟨v, h1, h2⟩ := I.dat i y e
      exact ⟨v, h1, h2.mono cp.ff⟩
    obj := fun i y e => by
      obtain ⟨b, h1, h2, h3, h4⟩ := I.obj i y e
      have n : b ≠ a := fun z => ap i _ e (by simp [S.own]) (by rw [h1, z])
      obtain ⟨k1, k2⟩ := own b y h2 h3 n
      exact ⟨b, h1, k1, k2, h4⟩
    prm := fun i y e => by
      obtain ⟨b, h1, h2, h3, h4⟩ := I.prm i y e
      have n : b ≠ a := fun z => ap i _ e (by simp [S.own]) (by rw [h1, z])
      obtain ⟨k1, k2⟩ := own b y h2 h3 n
      exact ⟨b, h1, k1, k2, h4⟩
    par := I.par
    apart := I.apart
    tmp := fun q hq => by
      obtain ⟨h2, h3, h4, h5⟩ := I.tmp q hq
      obtain ⟨k1, k2⟩ := own q.1 q.2 h2 h3 (nT q hq)
      exact ⟨k1, k2, h4, h5⟩ }
theorem ds_get {F : Hp} : ∀ {vs : List V} {l : List D} {i : Nat} {x : D}, RepA G F vs l → (l.map S.d)[i]? = some (S.d x) → ∃ v, vs[i]? = some v ∧ Rep G F v x := fun {vs l i x} r h => by
  rw [List.getElem?_map] at h
  cases q : l[i]? with
  | none => rw [q] at h; cases h
  | some y =>
    rw [q] at h
    cases h
    exact r.get q
theorem ds_no {l : List D} {i : Nat} {x : D} (h : (l.map S.d)[i]? = some (S.p x)) : False := by
  rw [List.getElem?_map] at h
  cases q : l[i]? with
  | none => rw [q] at h; cases h
  | some y => rw [q] at h; cases h
theorem ds_no' {l : List D} {i : Nat} {x : D} (h : (l.map S.d)[i]? = some (S.o x)) : False := by
  rw [List.getElem?_map] at h
  cases q : l[i]? with
  | none => rw [q] at h; cases h
  | some y => rw [q] at h; cases h
theorem made_core {n : Nat} {c : Str} {m : Fn} {us : List V} {xs : List D} {C : Addr} {F2 H1 : Hp} {ρ2 : List S} {σ : L2.St} {Q : VK} (hC : G.cls c = some C) (I2 : Good G g F2 ρ2 σ H1) (ra2 : RepA G F2 us xs) (hn : xs.length + 1 = n)
    (k2 : Post G g W F2 σ (match m (S.p (.ins c []) :: xs.map S.d) with
      | .rt (.d .non) ρf => (match ρf[0]? with
        | some (S.p y) => .ok (.f y) ρ2
        | _ => .bad)
      | .ex e _ => .ex e ρ2
      | _ => .bad) fun F' H' ρ' rv => ∀ v, RepV G g F' H' ρ' σ v rv → Q v H') : ∀ a dx, H1 a = none → H1 dx = none → dx ≠ a → spM G m n (.ref a :: us) (upd (upd H1 dx (.own a)) a (.ins C dx [])) (fun v H2 => v = .non ∧ Q (.ref a) H2) (WE W σ) := by
  intro a dx na nd ne
  obtain ⟨g1, ap, nT⟩ := newp I2 (.of na)
  have st1 : Step F2 H1 F2 (upd H1 dx (.own a)) := Step.new I2.fh nd
  have I3 := I2.step st1
  have na' : upd H1 dx (.own a) a = none := by rw [upd_ne (Ne.symm ne)]; exact na
  have st2 : Step F2 (upd H1 dx (.own a)) F2 (upd (upd H1 dx (.own a)) a (.ins C dx [])) := Step.new I3.fh na'
  have I4 := I3.step st2
  refine ⟨by rw [List.length_cons, ra2.length]; exact hn, F2, S.p (.ins c []) :: xs.map S.d, I4.fh, ⟨by rw [List.length_cons, List.length_cons, List.length_map, ra2.length], fun i y q => ?_, fun i y q => ?_, fun i y q => ?_, fun i j y z b hij q q2 => ?_, I4.nt, I4.tabs⟩, ?_⟩
  · cases i with
    | zero => cases q
    | succ i =>
      have q' : (xs.map S.d)[i]? = some (S.d y) := q
      obtain ⟨v, h1, h2⟩ := ds_get ra2 q'
      exact ⟨v, h1, h2⟩
  · cases i with
    | zero =>
      cases q
      exact ⟨a, rfl, I2.fh.free na, C, dx, [], hC, upd_same, .nil⟩
    | succ i => exact (ds_no q).elim
  · cases i with
    | zero => cases q
    | succ i => exact (ds_no' q).elim
  · cases i with
    | zero =>
      cases j with
      | zero => exact absurd rfl hij
      | succ j => exact (ds_no q2).elim
    | succ i => exact (ds_no q).elim
  · have pm : ∀ i b, PM (S.p (.ins c []) :: xs.map S.d) (V.ref a :: us) i = some b → b = a := fun i b q => by
      cases i with
      | zero => cases q; rfl
      | succ i =>
        unfold PM at q
        rw [List.getElem?_cons_succ] at q
        cases q3 : (xs.map S.d)[i]? with
        | none => rw [q3] at q; cases q
        | some s =>
          rw [q3] at q
          cases s with
          | p y => exact (ds_no q3).elim
          | un => cases q
          | d y => cases q
          | o y => cases q
    cases q : m (S.p (.ins c []) :: xs.map S.d) with
    | bad => rw [q] at k2; exact k2.elim
    | ex e ρf =>
      rw [q] at k2
      exact fun F5 H5 cls d cp rx => k2 F5 H5 cls d cp.ff (I4.callA g1 ap nT pm cp) rx
    | rt rv' ρf =>
      rw [q] at k2
      cases rv' with
      | r i => exact k2.elim
      | f y => exact k2.elim
      | d y =>
        cases y with
        | non =>
          dsimp only at k2
          cases q4 : ρf[0]? with
          | none => rw [q4] at k2; exact k2.elim
          | some s =>
            rw [q4] at k2
            cases s with
            | un => exact k2.elim
            | d y => exact k2.elim
            | o y => exact k2.elim
            | p y =>
              intro F5 H5 v cp ro
              have I5 := I4.callA g1 ap nT pm cp
              obtain ⟨b, y', e1, e2, e3, e4⟩ := cp.prm 0 _ rfl
              cases e1
              rw [q4] at e2
              cases e2
              cases ro
              exact ⟨rfl, k2 F5 H5 cp.ff I5 _ ⟨_, rfl, e3, g1, e4, ap, nT⟩⟩
        | _ => exact k2.elim
theorem made_go {n : Nat} {c : Str} {m : Fn} {dv : List D} {dvs : List V} {C : Addr} {r : List S → R (List HV)} {σ : L2.St} {H : Hp} {Q : VK} (hC : G.cls c = some C) (hdv : ∀ F, RepA G F dvs dv) (h : tM G g W (mMake n c m dv r) σ H Q) : tMade C (spM G m n) dvs (WE W) (tMA G g W r) σ H Q := by
  obtain ⟨F, ρ, I, k⟩ := h
  refine ⟨F, ρ, I, k.bind.imp fun F1 H1 ρ1 hs s1 I1 k1 vs rv => ?_⟩
  obtain ⟨F2, ρ2, xs, s2, I2, ra, k2⟩ := Post.forced I1 rv k1.bind
  split at k2
  case isFalse => exact k2.elim
  rename_i hn
  exact made_core hC I2 (ra.append (hdv F2)) hn k2
/-- C(e, ..): an own instance is made by its __init__ -/
theorem me_make {x : Str} {e : Expr} {es : List Expr} {m : Fn} {r : List S → R (List HV)} {k n : Nat} {fa C : Addr} {fd : FuncData} {ps : List Str} {ds : List Value} {dvs : List V} {dv : List D} (hC : G.cls x = some C) (mk : Mk X.K C fa) (fo : FnOk X.prog X.w X.K X.mg X.base (L2.CX X.prog X.w) k fa fd ps (spM G m n)) (hr : Room (k + 1) X.A) (hg : Gl X x) (hm : X.mg x = some (.ref C)) (hb : Binds X.K fd ps ds) (hd : Vals dvs ds) (hdv : ∀ F, RepA G F dvs dv) (tk : Takes X W) (ha : MA X G g W (e :: es) r)
    (hdb : (x == ("__debug__" : Str)) = false := by decide) (he : starEach (e :: es) X.env = (false, eval e X.env) :: starEach es X.env := by rfl) (hpl : (backTo pos (starEach es X.env)).any (·.1) = false := by rfl) :
    ME X G g W (.Call (.Name x p) (e :: es) [] pos) (mMake n x m dv r) :=
  pe_imp (pe_made (E := WE W) mk fo hr hg hm hb hd (fun σ => passAt tk σ) ha hdb he hpl) fun _ _ _ => made_go hC hdv
end
end MM
set_option Elab.async false
set_option maxRecDepth 100000
set_option maxHeartbeats 2000000
namespace MM
open PySem PySem.Spec PyProof.Rows L2
/-! ### calls with data alone -/
section
variable {X : Cx} {G : GG} {g : Gh} {W : WX} {pos p apos : Pos}
theorem Good.callD {F H F' H' : Hp} {ρ ρf ss : List S} {vs : List V} {σ : L2.St} (I : Good G g F ρ σ H) (pm : ∀ i, PM ss vs i = none) (cp : CallPost G F H ss vs ρf F' H') : Good G g F' ρ σ H' := by
  have stay : ∀ b o, H b = some o → (∀ ps, o ≠ .tbl ps) → H' b = some o := fun b o e t => cp.keep b o e (fun i q => by rw [pm i] at q; cases q) t
  have own : ∀ b y, F b = none → OwnAt G F H b y → F' b = none ∧ OwnAt G F' H' b y := fun b y e1 ow => by
    obtain ⟨o, ho⟩ := ow.there
    refine ⟨?_, ow.mono cp.ff ((stay b o ho (ow.kind ho).1).trans ho.symm)⟩
    cases q : F' b with
    | none => rfl
    | some u =>
      rcases cp.fresh b (by rw [q]; simp) with z | z
      · exact absurd e1 z
      · exact (ow.nw z).elim
  exact {
    len := I.len
    fh := cp.fh
    f0 := I.f0.trans cp.ff
    keep := fun b o e q t => stay b o (I.keep b o e q t) t
    nt := cp.nt
    tabs := cp.tabs
    fresh := fun b h => by
      rcases cp.fresh b h with z | z
      · exact I.fresh b z
      · exact .inr (newp I z).1
    dat := fun i y e => by
      obtain ⟨v, h1, h2⟩ := I.dat i y e
      exact ⟨v, h1, h2.mono cp.ff⟩
    obj := fun i y e => by
      obtain ⟨b, h1, h2, h3, h4⟩ := I.obj i y e
      obtain ⟨k1, k2⟩ := own b y h2 h3
      exact ⟨b, h1, k1, k2, h4⟩
    prm := fun i y e => by
      obtain ⟨b, h1, h2, h3, h4⟩ := I.prm i y e
      obtain ⟨k1, k2⟩ := own b y h2 h3
      exact ⟨b, h1, k1, k2, h4⟩
    par := I.par
    apart := I.apart
    tmp := fun q hq => by
      obtain ⟨h2, h3, h4, h5⟩ := I.tmp q hq
      obtain ⟨k1, k2⟩ := own q.1 q.2 h2 h3
      exact ⟨k1, k2, h4, h5⟩ }
theorem spM_data {m : Fn} {n : Nat} {F H : Hp} {ρ : List S} {σ : L2.St} {vs : List V} {xs : List D} {Q : VK} {E : XK} (I : Good G g F ρ σ H) (ra : RepA G F vs xs) (hn : vs.length = n)
    (k : match m (xs.map S.d) with
      | .rt rv _ => ∀ F' H', Same F F' → Good G g F' ρ σ H' → ∀ v, RepV G g F' H' ρ σ v rv → Q v H'
      | .ex e _ => ∀ F' H' cls d, Same F F' → Good G g F' ρ σ H' → RepX G F' cls d e → E cls d H'
      | .bad => False) : spM G m n vs H Q E := by
  have pm : ∀ i, PM (xs.map S.d) vs i = none := fun i => by
    unfold PM
    cases q3 : (xs.map S.d)[i]? with
    | none => rfl
    | some s =>
      cases s with
      | p y => exact (ds_no q3).elim
      | un => rfl
      | d y => rfl
      | o y => rfl
  refine ⟨hn, F, xs.map S.d, I.fh, ⟨by rw [List.length_map, ra.length], fun i y q => ds_get ra q, fun i y q => (ds_no q).elim, fun i y q => (ds_no' q).elim, fun i j y z b hij q q2 => (ds_no q).elim, I.nt, I.tabs⟩, ?_⟩
  cases q : m (xs.map S.d) with
  | bad => rw [q] at k; exact k
  | ex e ρf =>
    rw [q] at k
    exact fun F5 H5 cls d cp rx => k F5 H5 cls d cp.ff (I.callD pm cp) rx
  | rt rv ρf =>
    rw [q] at k
    intro F5 H5 v cp ro
    have I5 := I.callD pm cp
    refine k F5 H5 cp.ff I5 v ?_
    cases rv with
    | d y => exact ro
    | r i => exact ro.elim
    | f y =>
      obtain ⟨b, rfl, n1, n2, ow2⟩ := ro
      obtain ⟨z1, z2, z3⟩ := newp I n1
      exact ⟨b, rfl, n2, z1, ow2, z2, z3⟩
/-! ### a property -/
def mProp (cs : Str) (m : Fn) (a : Ex) : Ex := fun ρ => (mForce a ρ).bind fun x ρ1 => match x with
  | .ins c es => if c = cs then (match m [.d (.ins c es)] with
    | .rt rv _ => .ok rv ρ1
    | _ => .bad) else .bad
  | _ => .bad
theorem never_out : Passes (L2.CX X.prog X.w) X.nox (fun _ _ _ => False) := fun pins σ H s e s' I c => by
  obtain ⟨a, B, H', cls, d, _, _, _, _, _, _, _, h⟩ := c
  exact h.elim
theorem me_prop {cs f : Str} {C pr ga : Addr} {fd : FuncData} {ps : List Str} {k : Nat} {m : Fn} {e : Expr} {a : Ex} (hC : G.cls cs = some C) (c : Cls X.K C) (hp : PropOf X.K C f pr ga) (fo : FnOk X.prog X.w X.K X.mg X.base (L2.CX X.prog X.w) k ga fd ps (spM G m 1)) (hr : Room (k + 1) X.A) (hb : Binds X.K fd ps [])
    (he : ME X G g W e a) (hab : attributeBase e f X.env (eval e X.env) = eval e X.env := by rfl) : ME X G g W (.Attribute e f pos) (mProp cs m a) :=
  pe_imp (pe_prop (me_force he) c hp fo hr hb .nil never_out hab) fun σ H Q ⟨F, ρ, I, k⟩ => ⟨F, ρ, I, k.bind.imp fun F1 H1 ρ1 x s1 I1 k1 v r => by
    cases x with
    | ins c es =>
      dsimp only at k1
      split at k1
      · rename_i ec
        subst ec
        cases r with
        | ins h0 h1 h2 =>
          rw [hC] at h0
          cases h0
          refine ⟨_, _, _, rfl, I1.fh _ _ h1, spM_data I1 (.cons (.ins hC h1 h2) .nil) rfl ?_⟩
          show match m [S.d (.ins c es)] with
            | .rt rv _ => _
            | .ex e _ => _
            | .bad => False
          cases q : m [S.d (.ins c es)] with
          | bad => rw [q] at k1; exact k1
          | ex e ρf => rw [q] at k1; exact k1.elim
          | rt rv ρf =>
            rw [q] at k1
            exact fun F5 H5 s5 I5 v rv => k1 F5 H5 s5 I5 v rv
      · exact k1.elim
    | _ => exact k1.elim⟩
end
end MM
set_option Elab.async false
set_option maxRecDepth 100000
set_option maxHeartbeats 2000000
namespace MM
open PySem PySem.Spec PyProof.Rows L2
/-! ### o.m(e, ..), o.m(): the object and the arguments as data -/
section
variable {X : Cx} {CX : CXT} {k : Nat} {C f : Addr} {fd : FuncData} {ps : List Str} {sp : Sp} {E : L2.St → XK} {m : Str} {pos apos : Pos} {o e : Expr} {es : List Expr} {ta : TE} {t : TA}
def tMethE (C : Addr) (m : Str) (sp : Sp) (E : L2.St → XK) (ta : TE) (t : TA) : TE := fun σ H Q => ta σ H fun x H1 => ∃ a dx fs, x = .ref a ∧ H1 a = some (.ins C dx fs) ∧ fs.lookup m = none ∧ t σ H1 fun vs H2 => sp (.ref a :: vs) H2 Q (E σ)
theorem pe_methE {pl : Sem Bool} (he : PE X o ta) (c : Cls X.K C) (hm : Meth X.K C m f) (fo : FnOk X.prog X.w X.K X.mg X.base CX k f fd ps sp) (hr : Room k X.A) (hb : Binds X.K fd ps []) (hx : ∀ σ, PassesAt CX X σ (E σ)) (ha : PA X (e :: es) t)
    (hst : starEach (e :: es) X.env = (false, eval e X.env) :: starEach es X.env := by rfl) (hpl : (backTo pos (starEach es X.env)).any (·.1) = false := by rfl)
    (ht : eval (.Call (.Attribute o m apos) (e :: es) [] pos) X.env = (do
      let ov ← eval o X.env
      standAt apos.atName
      let (f, first) ← holding [ov] (getMethod ov m pl)
      callWith pos f first (backTo pos (starEach (e :: es) X.env)) (backToKw pos (keywordEach [] X.env))) := by rfl) :
    PE X (.Call (.Attribute o m apos) (e :: es) [] pos) (tMethE C m sp E ta t) := ⟨fun pins s σ H Q I h => by
  refine PySem.W.methodCall_KW (pl := pl) (thn (he.run pins s σ H _ I h) fun u s1 ⟨x, H1, I1, rx, a, dx, fs, ex, ea, l, q⟩ => ?_) ht
  subst ex
  obtain rfl : u = Value.ref a := rx
  exact getmeth_ok I1 ea c hm l (PySem.W.callWith_K (first := [.ref a]) (h₀ := X.base) I.ok.mod.kin hm.kp (thn (ha.run pos pins s1 σ H1 _ I1 q) fun us s2 ⟨vs, H2, I2, r, q2⟩ => ⟨I2.kIn, run_fnS (E := E) (us := .ref a :: us) (vs := .ref a :: vs) fo hr hb (hx σ) I2 (.cons rfl r) q2⟩) hst hpl)⟩
theorem pe_methE0 {pl : Sem Bool} (he : PE X o ta) (c : Cls X.K C) (hm : Meth X.K C m f) (fo : FnOk X.prog X.w X.K X.mg X.base CX k f fd ps sp) (hr : Room k X.A) (hb : Binds X.K fd ps []) (hx : ∀ σ, PassesAt CX X σ (E σ))
    (ht : eval (.Call (.Attribute o m apos) [] [] pos) X.env = (do
      let ov ← eval o X.env
      standAt apos.atName
      let (f, first) ← holding [ov] (getMethod ov m pl)
      callWith pos f first (backTo pos (starEach [] X.env)) (backToKw pos (keywordEach [] X.env))) := by rfl) :
    PE X (.Call (.Attribute o m apos) [] [] pos) (tMethE C m sp E ta tNil) := ⟨fun pins s σ H Q I h => by
  refine PySem.W.methodCall_KW (pl := pl) (thn (he.run pins s σ H _ I h) fun u s1 ⟨x, H1, I1, rx, a, dx, fs, ex, ea, l, q⟩ => ?_) ht
  subst ex
  obtain rfl : u = Value.ref a := rx
  exact getmeth_ok I1 ea c hm l (PySem.W.callWith_K0 (first := [.ref a]) I1.kIn hm.kp (run_fnS (E := E) (us := [.ref a]) (vs := [.ref a]) fo hr hb (hx σ) I1 (.cons rfl .nil) q))⟩
end
theorem RepF.no {G : GG} {F : Hp} {f : Str} : ∀ {fs : List (Str × V)} {es : List (Str × D)}, RepF G F fs es → es.lookup f = none → fs.lookup f = none
  | _, _, .nil, _ => rfl
  | _, _, .cons (k := k) h r, e => by
    rw [List.lookup_cons] at e ⊢
    cases q : (f == k) with
    | true => rw [q] at e; cases e
    | false => rw [q] at e; exact r.no e
def mMeth (n : Nat) (cs m : Str) (fn : Fn) (a : Ex) (r : List S → R (List HV)) : Ex := fun ρ => (mForce a ρ).bind fun x ρ1 => match x with
  | .ins c es => if c = cs ∧ (es.lookup m).isNone = true then (r ρ1).bind fun hs ρ2 => (forceHs hs ρ2).bind fun xs ρ3 => if xs.length + 1 = n then (match fn ((.ins c es :: xs).map S.d) with
    | .rt rv _ => .ok rv ρ3
    | .ex e _ => .ex e ρ3
    | .bad => .bad) else .bad else .bad
  | _ => .bad
section
variable {X : Cx} {G : GG} {g : Gh} {W : WX} {pos p apos : Pos}
theorem meth_go {n : Nat} {cs m : Str} {fn : Fn} {a : Ex} {r : List S → R (List HV)} {C : Addr} {σ : L2.St} {H : Hp} {Q : VK} (hC : G.cls cs = some C) (h : tM G g W (mMeth n cs m fn a r) σ H Q) : tMethE C m (spM G fn n) (WE W) (tMD G g W (mForce a)) (tMA G g W r) σ H Q := by
  obtain ⟨F, ρ, I, k⟩ := h
  refine ⟨F, ρ, I, k.bind.imp fun F1 H1 ρ1 x s1 I1 k1 v rp => ?_⟩
  cases x with
  | ins c es =>
    dsimp only at k1
    split at k1
    · rename_i hc
      obtain ⟨rfl, hn⟩ := hc
      cases rp with
      | ins h0 h1 h2 =>
        rw [hC] at h0
        cases h0
        refine ⟨_, _, _, rfl, I1.fh _ _ h1, h2.no (Option.isNone_iff_eq_none.mp hn), F1, ρ1, I1, k1.bind.imp fun F2 H2 ρ2 hs s2 I2 k2 vs rv => ?_⟩
        obtain ⟨F3, ρ3, xs, s3, I3, ra, k3⟩ := Post.forced I2 rv k2.bind
        split at k3
        case isFalse => exact k3.elim
        rename_i hl
        have ri : Rep G F3 (.ref _) (.ins c es) := (Rep.ins hC h1 h2).mono (s2.trans s3)
        refine spM_data I3 (.cons ri ra) (by rw [List.length_cons, ra.length]; exact hl) ?_
        cases q : fn ((.ins c es :: xs).map S.d) with
        | bad => rw [q] at k3; exact k3
        | ex e ρf =>
          rw [q] at k3
          exact fun F5 H5 cls d s5 I5 rx => k3 F5 H5 cls d s5 I5 rx
        | rt rv ρf =>
          rw [q] at k3
          exact fun F5 H5 s5 I5 v rv => k3 F5 H5 s5 I5 v rv
    · exact k1.elim
  | _ => exact k1.elim
theorem me_meth {pl : Sem Bool} {cs m : Str} {C f : Addr} {fd : FuncData} {ps : List Str} {k n : Nat} {fn : Fn} {o e : Expr} {es : List Expr} {a : Ex} {r : List S → R (List HV)} (hC : G.cls cs = some C) (c : Cls X.K C) (hm : Meth X.K C m f) (fo : FnOk X.prog X.w X.K X.mg X.base (L2.CX X.prog X.w) k f fd ps (spM G fn n)) (hr : Room k X.A) (hb : Binds X.K fd ps []) (tk : Takes X W) (ho : ME X G g W o a) (ha : MA X G g W (e :: es) r)
    (hst : starEach (e :: es) X.env = (false, eval e X.env) :: starEach es X.env := by rfl) (hpl : (backTo pos (starEach es X.env)).any (·.1) = false := by rfl)
    (ht : eval (.Call (.Attribute o m apos) (e :: es) [] pos) X.env = (do
      let ov ← eval o X.env
      standAt apos.atName
      let (f, first) ← holding [ov] (getMethod ov m pl)
      callWith pos f first (backTo pos (starEach (e :: es) X.env)) (backToKw pos (keywordEach [] X.env))) := by rfl) :
    ME X G g W (.Call (.Attribute o m apos) (e :: es) [] pos) (mMeth n cs m fn a r) :=
  pe_imp (pe_methE (E := WE W) (me_force ho) c hm fo hr hb (fun σ => passAt tk σ) ha hst hpl ht) fun _ _ _ => meth_go hC
theorem me_meth0 {pl : Sem Bool} {cs m : Str} {C f : Addr} {fd : FuncData} {ps : List Str} {k n : Nat} {fn : Fn} {o : Expr} {a : Ex} (hC : G.cls cs = some C) (c : Cls X.K C) (hm : Meth X.K C m f) (fo : FnOk X.prog X.w X.K X.mg X.base (L2.CX X.prog X.w) k f fd ps (spM G fn n)) (hr : Room k X.A) (hb : Binds X.K fd ps []) (tk : Takes X W) (ho : ME X G g W o a)
    (ht : eval (.Call (.Attribute o m apos) [] [] pos) X.env = (do
      let ov ← eval o X.env
      standAt apos.atName
      let (f, first) ← holding [ov] (getMethod ov m pl)
      callWith pos f first (backTo pos (starEach [] X.env)) (backToKw pos (keywordEach [] X.env))) := by rfl) :
    ME X G g W (.Call (.Attribute o m apos) [] [] pos) (mMeth n cs m fn a mNil) :=
  pe_imp (pe_methE0 (E := WE W) (me_force ho) c hm fo hr hb (fun σ => passAt tk σ) ht) fun σ H Q h => by
    obtain ⟨F, ρ, I, k⟩ := meth_go hC h
    refine ⟨F, ρ, I, k.imp fun F1 H1 ρ1 x s1 I1 kk v r => ?_⟩
    obtain ⟨b, dx, fs, e1, e2, e3, F2, ρ2, I2, k2⟩ := kk v r
    exact ⟨b, dx, fs, e1, e2, e3, k2 F2 H1 (.refl _) I2 [] .nil⟩
end
end MM
set_option Elab.async false
set_option maxRecDepth 100000
set_option maxHeartbeats 2000000
namespace MM
open PySem PySem.Spec PyProof.Rows L2
/-! ### own functions with data -/
def mApp (fn : Fn) (xs : List D) : List S → R RV := fun ρ => match fn (xs.map S.d) with
  | .rt rv _ => .ok rv ρ
  | .ex e _ => .ex e ρ
  | .bad => .bad
section
variable {G : GG} {g : Gh} {W : WX}
theorem app_sp {m : Fn} {n : Nat} {F H : Hp} {ρ : List S} {σ : L2.St} {vs : List V} {xs : List D} {Q : VK} (I : Good G g F ρ σ H) (ra : RepA G F vs xs) (hn : vs.length = n)
    (k : Post G g W F σ (mApp m xs ρ) fun F' H' ρ' rv => ∀ v, RepV G g F' H' ρ' σ v rv → Q v H') : spM G m n vs H Q (WE W σ) := by
  refine spM_data I ra hn ?_
  unfold mApp at k
  cases q : m (xs.map S.d) with
  | bad => rw [q] at k; exact k
  | ex e ρf =>
    rw [q] at k
    exact fun F5 H5 cls d s5 I5 rx => k F5 H5 cls d s5 I5 rx
  | rt rv ρf =>
    rw [q] at k
    exact fun F5 H5 s5 I5 v rv => k F5 H5 s5 I5 v rv
end
/-- the class c has the function m, with its mirror -/
structure Dun (P : Program) (w : World) (K : PySem.W.Frag) (mg : Str → Option Value) (base : Heap) (G : GG) (k : Nat) (c m : Str) (n : Nat) (fn : Fn) : Prop where
  ex : ∃ (C f : Addr) (fd : FuncData) (ps : List Str), G.cls c = some C ∧ Cls K C ∧ PySem.W.findIn K (.ref C) m = some (some (.ref f)) ∧ PySem.W.isFn K (.ref f) = true ∧ PySem.W.keepIn K (.ref f) = true ∧ PySem.W.fnIn K f = true ∧ FnOk P w K mg base (L2.CX P w) k f fd ps (spM G fn n) ∧ Binds K fd ps []
abbrev Own := List (Str × Fn)
def Duns (P : Program) (w : World) (K : PySem.W.Frag) (mg : Str → Option Value) (base : Heap) (G : GG) (j : Nat) (m : Str) (n : Nat) (own : Own) : Prop := ∀ q ∈ own, ∃ k, k ≤ j ∧ Dun P w K mg base G k q.1 m n q.2
theorem duns_nil {P : Program} {w : World} {K : PySem.W.Frag} {mg : Str → Option Value} {base : Heap} {G : GG} {j : Nat} {m : Str} {n : Nat} : Duns P w K mg base G j m n [] := fun q h => by cases h
theorem duns_cons {P : Program} {w : World} {K : PySem.W.Frag} {mg : Str → Option Value} {base : Heap} {G : GG} {j k : Nat} {m c : Str} {n : Nat} {fn : Fn} {own : Own} (d : Dun P w K mg base G k c m n fn) (hk : k ≤ j) (r : Duns P w K mg base G j m n own) : Duns P w K mg base G j m n ((c, fn) :: own) := fun q h => by
  rcases List.mem_cons.mp h with rfl | h
  · exact ⟨k, hk, d⟩
  · exact r q h
def ownAt (own : Own) (c : Str) : Option Fn := match own with
  | [] => none
  | (x, fn) :: r => if x = c then some fn else ownAt r c
theorem ownAt_mem {c : Str} {fn : Fn} : ∀ {own : Own}, ownAt own c = some fn → (c, fn) ∈ own
  | [], h => by cases h
  | (x, f) :: r, h => by
    unfold ownAt at h
    split at h
    · rename_i e
      subst e
      cases h
      exact List.mem_cons_self
    · exact List.mem_cons_of_mem _ (ownAt_mem h)
section
variable {X : Cx} {G : GG} {g : Gh} {W : WX} {pos p apos : Pos} {k j n : Nat} {c m : Str} {fn : Fn} {own : Own}
/-- an instance and its class, in the machine -/
theorem inst_at {pins : List (Addr × Obj)} {σ : L2.St} {H : Hp} {s : Shared} {a C dx : Addr} {fs : List (Str × V)} (I : Inv X pins σ H s) (h : H a = some (.ins C dx fs)) : ∃ od, PySem.W.InstAt s.heap a (PySem.W.instObj C dx) C (some od) := by
  obtain ⟨mA, J, _⟩ := ins_get I.hok h
  obtain ⟨od, J, _⟩ := J.look
  exact ⟨od, J⟩
theorem rep_ins {F H : Hp} {v : V} {c : Str} {es : List (Str × D)} (s : Same F H) (r : Rep G F v (.ins c es)) : ∃ a C dx fs, v = .ref a ∧ G.cls c = some C ∧ H a = some (.ins C dx fs) ∧ RepF G F fs es := by
  cases r with
  | ins h0 h1 h2 => exact ⟨_, _, _, _, rfl, h0, s _ _ h1, h2⟩
/-- a call of the function f deeper in the machine -/
theorem run_deep {CX : CXT} {f : Addr} {fd : FuncData} {ps : List Str} {sp : Sp} {E : L2.St → XK} {pins : List (Addr × Obj)} {σ : L2.St} {H : Hp} {s : Shared} {Q : VK} {us : List Value} {vs : List V} {A : Around} (F : FnOk X.prog X.w X.K X.mg X.base CX k f fd ps sp) (hr : Room k A) (e0 : Env0 X.prog X.w X.K X.mg X.base A X.stack s H) (hb : Binds X.K fd ps []) (hx : PassesAt CX X σ (E σ))
    (I : Inv X pins σ H s) (r : Vals vs us) (h : sp vs H Q (E σ)) : wpAny (model X.prog X.w) A (call (.ref f) us) (EP X pins σ Q) X.xe s := by
  have hl : us.length = ps.length := by rw [← r.length]; exact F.len _ _ _ _ h
  have b := hb s us I.kIn (by rw [List.append_nil]; exact hl)
  rw [List.append_nil] at b
  refine wpAny_call (codeAny_mono (F.run A X.stack s H ⟨us, []⟩ us vs Q (E σ) hr e0 b r h) fun q s' hq => ?_)
  cases q with
  | error e => exact hx pins H s e s' I hq
  | ok fl =>
    cases fl with
    | ret u => exact I.after hq
    | next => exact False.elim hq
    | brk => exact False.elim hq
    | cont => exact False.elim hq
/-! ### ~x -/
def mInv (own : Own) (a : Ex) : Ex := fun ρ => (mForce a ρ).bind fun x ρ1 => match x with
  | .ins c es => (match ownAt own c with
    | some fn => mApp fn [.ins c es] ρ1
    | none => .bad)
  | _ => .bad
/-- what is asked of a call of a class's function by its instance and more values -/
def Own1 (X : Cx) (G : GG) (W : WX) (own : Own) (n : Nat) (σ : L2.St) (v : V) (vs : List V) (H : Hp) (Q : VK) : Prop := ∃ b c C dx fs fn, v = .ref b ∧ G.cls c = some C ∧ H b = some (.ins C dx fs) ∧ (c, fn) ∈ own ∧ spM G fn n (.ref b :: vs) H Q (WE W σ)
theorem own1_of {F H : Hp} {ρ : List S} {σ : L2.St} {v : V} {vs : List V} {c : Str} {es : List (Str × D)} {xs : List D} {fn : Fn} {Q : VK} (I : Good G g F ρ σ H) (r : Rep G F v (.ins c es)) (rs : RepA G F vs xs) (hn : vs.length + 1 = n) (hm : (c, fn) ∈ own)
    (k : Post G g W F σ (mApp fn (.ins c es :: xs) ρ) fun F' H' ρ' rv => ∀ v, RepV G g F' H' ρ' σ v rv → Q v H') : Own1 X G W own n σ v vs H Q := by
  obtain ⟨b, C, dx, fs, rfl, h0, h1, h2⟩ := rep_ins I.fh r
  exact ⟨b, c, C, dx, fs, fn, rfl, h0, h1, hm, app_sp I (.cons r rs) hn k⟩
theorem me_inv {a : Expr} {f : Ex} (d : Duns X.prog X.w X.K X.mg X.base G j "__invert__" 1 own) (hr : Room j X.A) (tk : Takes X W) (ha : ME X G g W a f) : ME X G g W (.UnaryOp .Invert a pos) (mInv own f) := by
  refine ⟨fun pins s σ H Q I ⟨F, ρ, J, h⟩ => ?_⟩
  refine UnaryOp_ (thn ((me_force ha).run pins s σ H (fun y H1 => Own1 X G W own 1 σ y [] H1 Q) I ⟨F, ρ, J, h.bind.imp fun F1 H1 ρ1 x s1 I1 k1 v r => ?_⟩) fun v s1 ⟨y, H1, I1, r1, q1⟩ => ?_)
  · cases x with
    | ins c es =>
      dsimp only at k1
      cases q : ownAt own c with
      | none => rw [q] at k1; exact k1.elim
      | some fn =>
        rw [q] at k1
        exact own1_of I1 r .nil rfl (ownAt_mem q) k1
    | _ => exact k1.elim
  · obtain ⟨b, c, C, dx, fs, fn, rfl, h0, h1, hm, h2⟩ := q1
    obtain ⟨k, hk, C', fa, fd, ps, hC, cl, hs, hf, hkp, hfi, fo, hb⟩ := d _ hm
    rw [hC] at h0
    cases h0
    cases (show v = Value.ref b from r1)
    obtain ⟨od, J1⟩ := inst_at I1 h1
    obtain ⟨m0, hF⟩ := I1.fr
    exact PySem.W.ksp_inv hF I1.ok.mod.kin J1 hs hf (run_fnS (E := WE W) (us := [.ref b]) (vs := [.ref b]) fo (hr.mono hk) hb (passAt tk σ) I1 (.cons rfl .nil) h2)
/-! ### a op b, where a may be an own instance -/
/-- own: both operands as data, then the class's function; else the usual one -/
def mDisp (ok : Str → D → Bool) (own : Own) (std : D → D → Option RV) (post : RV → Option RV) (a b : Ex) : Ex := fun ρ => (mHold a ρ).bind fun ha ρ1 => (mHold b ρ1).bind fun hb ρ2 => match peekH ρ2 ha with
  | some (.ins _ _) => (forceHs [ha, hb] ρ2).bind fun xs ρ3 => (match xs with
    | [.ins c es, y] => (match ownAt own c with
      | some fn => if ok c y = true then (mApp fn [.ins c es, y] ρ3).bind fun rv ρ4 => ret (post rv) ρ4 else .bad
      | none => .bad)
    | _ => .bad)
  | some x => (match peekH ρ2 hb with
    | some y => ret (std x y) ρ2
    | none => .bad)
  | none => .bad
/-- the own way's question -/
def DispQ (X : Cx) (G : GG) (W : WX) (ok : Str → D → Bool) (own : Own) (post : RV → Option RV) (σ : L2.St) (v u : V) (H : Hp) (Q : VK) : Prop :=
  ∃ F ρ g c es y fn, Good G g F ρ σ H ∧ Rep G F v (.ins c es) ∧ Rep G F u y ∧ (c, fn) ∈ own ∧ ok c y = true ∧ Post G g W F σ ((mApp fn [.ins c es, y] ρ).bind fun rv ρ4 => ret (post rv) ρ4) fun F' H' ρ' rv => ∀ v, RepV G g F' H' ρ' σ v rv → Q v H'
theorem disp_go {ok : Str → D → Bool} {std : D → D → Option RV} {post : RV → Option RV} {f h : Ex} {σ : L2.St} {H : Hp} {Q : VK} (hh : tM G g W (mDisp ok own std post f h) σ H Q) :
    tMH G g W (mHold f) σ H fun v H1 => tMH G g W (mHold h) σ H1 fun u H2 => rD G std v u H2 Q ∨ DispQ X G W ok own post σ v u H2 Q := by
  obtain ⟨F, ρ, J, hh⟩ := hh
  refine ⟨F, ρ, J, hh.bind.imp fun F1 H1 ρ1 ra s1 I1 k1 v r => ⟨F1, ρ1, I1, k1.bind.imp fun F2 H2 ρ2 rb s2 I2 k2 u ru => ?_⟩⟩
  have stdW : ∀ x, peekH ρ2 ra = some x → Post G g W F2 σ (match peekH ρ2 rb with
      | some y => ret (std x y) ρ2
      | none => .bad) (fun F' H' ρ' rv => ∀ v, RepV G g F' H' ρ' σ v rv → Q v H') → rD G std v u H2 Q := fun x q1 k2 => by
    cases q2 : peekH ρ2 rb with
    | none => rw [q2] at k2; exact k2.elim
    | some y =>
      rw [q2] at k2
      dsimp only at k2
      unfold ret at k2
      cases q3 : std x y with
      | none => rw [q3] at k2; exact k2.elim
      | some rv =>
        rw [q3] at k2
        exact ⟨F2, x, y, rv, I2.fh, peekH_rep I2 (r.mono s2) q1, peekH_rep I2 ru q2, q3, fun F3 H3 w st ro => k2 F3 H3 st.ff (I2.step st) w (ro.toV I2 st)⟩
  cases q1 : peekH ρ2 ra with
  | none => rw [q1] at k2; exact k2.elim
  | some x =>
    rw [q1] at k2
    cases x with
    | ins c1 e1 =>
      refine .inr ?_
      have rs : RepHs G F2 σ [v, u] [ra, rb] := .cons (r.mono s2) (.cons ru .nil)
      obtain ⟨F3, ρ3, xs, s3, I3, ra3, k3⟩ := Post.forced I2 rs k2.bind
      cases ra3 with
      | @cons v' vs' x1 xs1 rx1 rt1 =>
        cases rt1 with
        | @cons u' us' y xs2 rx2 rt2 =>
          cases rt2 with
          | nil =>
            cases x1 with
            | ins c es =>
              dsimp only at k3
              cases q : ownAt own c with
              | none => rw [q] at k3; exact k3.elim
              | some fn =>
                rw [q] at k3
                dsimp only at k3
                split at k3
                · rename_i hok
                  exact ⟨F3, ρ3, g, c, es, y, fn, I3, rx1, rx2, ownAt_mem q, hok, k3⟩
                · exact k3.elim
            | _ => exact k3.elim
    | _ => exact .inl (stdW _ q1 k2)
def okSame : Str → D → Bool
  | c, .ins c2 _ => decide (c = c2)
  | _, _ => false
def mBinO (od : D → D → Option RV) (own : Own) (a b : Ex) : Ex := mDisp okSame own od some a b
theorem post_some {F : Hp} {σ : L2.St} {r : R RV} {K : Hp → Hp → List S → RV → Prop} (k : Post G g W F σ (r.bind fun rv ρ4 => ret (some rv) ρ4) K) : Post G g W F σ r K := by
  cases r with
  | ok a ρ => exact k
  | ex e ρ => exact k
  | bad => exact k
theorem me_binO {op : Operator} {od : D → D → Option RV} {a b : Expr} {f h : Ex} (ho : OpR X (binaryOp op) (rD G od)) (d : Duns X.prog X.w X.K X.mg X.base G j (PySem.dunder op.info.2) 2 own) (sf : ∀ q ∈ own, ∀ C, G.cls q.1 = some C → PySem.W.selfFirst X.K C = true) (hr : Room j X.A) (tk : Takes X W)
    (ha : ME X G g W a f) (hb : ME X G g W b h) : ME X G g W (.BinOp a op b pos) (mBinO od own f h) := by
  refine ⟨fun pins s σ H Q I hh => ?_⟩
  refine wpAny_BinOp (binT (R := fun v u H2 => rD G od v u H2 Q ∨ DispQ X G W okSame own some σ v u H2 Q) (me_hold ha) (me_hold hb) I (disp_go hh) fun v u s2 x y H2 I2 rx ry q => ?_)
  rcases q with q | ⟨F, ρ, g', c, es, yd, fn, I3, r1, r2, hm, hok, k⟩
  · exact ho pins s2 σ H2 x y v u Q I2 rx ry q
  · cases yd with
    | ins c2 e2 =>
      have ec : c = c2 := of_decide_eq_true hok
      subst ec
      obtain ⟨k0, hk, C, fa, fd, ps, hC, cl, hs, hf, hkp, hfi, fo, hbd⟩ := d _ hm
      obtain ⟨b1, C1, dx, fs, rfl, h0, h1, h2⟩ := rep_ins I3.fh r1
      obtain ⟨b2, C2, dy, gs, rfl, g0, g1, g2⟩ := rep_ins I3.fh r2
      rw [hC] at h0
      cases h0
      rw [hC] at g0
      cases g0
      cases (show v = Value.ref b1 from rx)
      cases (show u = Value.ref b2 from ry)
      obtain ⟨od1, J1⟩ := inst_at I2 h1
      obtain ⟨od2, J2⟩ := inst_at I2 g1
      obtain ⟨m0, hF⟩ := I2.fr
      have sp : spM G fn 2 [.ref b1, .ref b2] H2 Q (WE W σ) := app_sp I3 (.cons r1 (.cons r2 .nil)) rfl (post_some k)
      refine PySem.W.binop_K hF I2.ok.mod.kin J1 J2.type (sf _ hm C hC) hs hf (wpAny_mono (run_fnS (E := WE W) (us := [.ref b1, .ref b2]) (vs := [.ref b1, .ref b2]) fo (hr.mono hk) hbd (passAt tk σ) I2 (.cons rfl (.cons rfl .nil)) sp) (fun w s' z => ?_) fun _ _ x => x)
      obtain ⟨z', H', I', rz, qz⟩ := z
      exact SlX.cmpback rz ⟨z', H', I', rz, qz⟩
    | _ => cases hok
/-! ### what a value is, to a class -/
def tNames : List String := ["NoneType", "bool", "int", "str", "list", "tuple", "dict"]
/-- the class c beside the classes cs -/
structure ClsF (K : PySem.W.Frag) (mg : Str → Option Value) (cls : Str → Option Addr) (cs : List Str) (c : Str) : Prop where
  ex : ∃ C, cls c = some C ∧ mg c = some (.ref C) ∧ (∀ t ∈ tNames, PySem.W.kitOne K (.type t) (.ref C) = some false ∧ PySem.W.notFirst K C (.type t) = true) ∧
    ∀ c' ∈ cs, ∃ C', cls c' = some C' ∧ PySem.W.kitOne K (.ref C') (.ref C) = some (decide (c' = c)) ∧ PySem.W.notFirst K C (.ref C') = true ∧ Cls K C' ∧ SlX.SIsi K C'
theorem tyN_in {x : D} {t : String} (h : tyN x = some t) : t ∈ tNames := by
  cases x <;> first | (cases h; decide) | cases h
/-- a value whose class is known -/
def knownD (cs : List Str) : D → Bool
  | .ins c _ => cs.contains c
  | x => (tyN x).isSome
def isB (c : Str) : D → Bool
  | .ins c' _ => decide (c' = c)
  | _ => false
theorem known_ty {K : PySem.W.Frag} {mg : Str → Option Value} {cs : List Str} (hK : K = G.K) (cf : ClsF K mg G.cls cs c) {F H : Hp} {v : V} {x : D} (s : Same F H) (r : RepT G F H v x) (h : knownD cs x = true) :
    ∃ t C, G.cls c = some C ∧ TyX K H v t ∧ PySem.W.notFirst K C t = true ∧ PySem.W.kitOne K t (.ref C) = some (isB c x) := by
  obtain ⟨C, h1, h2, h3, h4⟩ := cf.ex
  subst hK
  cases x with
  | ins c' es =>
    obtain ⟨C', e1, e2, e3, e4, e5⟩ := h4 c' (List.contains_iff_mem.mp h)
    rcases r with r | ⟨a, rfl, ow⟩
    · obtain ⟨b, C2, dx, fs, rfl, h5, h6, _⟩ := rep_ins s r
      rw [e1] at h5
      cases h5
      exact ⟨_, C, h1, .base (.ins h6 e4 e5.ca e5.cn e5.ct e5.cm), e3, e2⟩
    · obtain ⟨C2, dx, fs, h5, h6, _⟩ := ow
      rw [e1] at h5
      cases h5
      exact ⟨_, C, h1, .base (.ins h6 e4 e5.ca e5.cn e5.ct e5.cm), e3, e2⟩
  | cls _ => cases h
  | ro _ => cases h
  | _ => exact ⟨_, C, h1, tyN_ok s r rfl, (h3 _ (by decide)).2, (h3 _ (by decide)).1⟩
/-! ### isinstance(x, C) -/
def mIsC (cs : List Str) (c : Str) (f : Ex) : Ex := fun ρ => (mHold f ρ).bind fun h ρ1 => match peekH ρ1 h with
  | some x => if knownD cs x = true then .ok (.d (.bl (isB c x))) ρ1 else .bad
  | none => .bad
theorem me_isC {cs : List Str} {e : Expr} {f : Ex} {np tp : Pos} (hK : X.K = G.K) (cf : ClsF X.K X.mg G.cls cs c) (hg : Gl X "isinstance") (hm : X.mg "isinstance" = none) (hgT : Gl X c) (ha : ME X G g W e f)
    (h1 : starEach [e, .Name c tp] X.env = (false, eval e X.env) :: starEach [.Name c tp] X.env := by rfl) (h2 : starEach [.Name c tp] X.env = (false, eval (.Name c tp) X.env) :: starEach [] X.env := by rfl) (hpl : (backTo pos (starEach [.Name c tp] X.env)).any (·.1) = false := by rfl)
    (hdb : (c == ("__debug__" : Str)) = false := by decide) :
    ME X G g W (.Call (.Name "isinstance" np) [e, .Name c tp] [] pos) (mIsC cs c f) := by
  obtain ⟨C, c1, c2, c3, c4⟩ := cf.ex
  exact pe_imp (pe_callB (call_isi (X := X)) hg hm (by decide +kernel) (pa_cons (me_hold ha) (pa_cons (pe_glob (v := .ref C) hgT c2 rfl hdb) pa_nil h2) h1) (by decide) (by decide) h1 hpl) fun σ H Q ⟨F, ρ, I, k⟩ => by
    refine ⟨F, ρ, I, k.bind.imp fun F1 H1 ρ1 h s1 I1 k1 v r => ?_⟩
    cases q : peekH ρ1 h with
    | none => rw [q] at k1; exact k1.elim
    | some x =>
      rw [q] at k1
      dsimp only at k1
      split at k1
      · rename_i hk
        obtain ⟨t, C', d1, d2, d3, d4⟩ := known_ty hK cf I1.fh (peekH_rep I1 r q) hk
        rw [c1] at d1
        cases d1
        exact ⟨v, .ref C, t, .ref C, _, rfl, .own C, d2, d4, k1 F1 H1 (.refl _) I1 _ (.bl _)⟩
      · exact k1.elim
/-! ### a class as a value -/
theorem me_cls {cs : List Str} {np : Pos} (cf : ClsF X.K X.mg G.cls cs c) (hg : Gl X c) (hdb : (c == ("__debug__" : Str)) = false := by decide) : ME X G g W (.Name c np) (mC (.cls c)) := by
  obtain ⟨C, c1, c2, _⟩ := cf.ex
  exact me_c (pe_glob (v := .ref C) hg c2 rfl hdb) fun F => .cls c1
/-! ### == and != -/
def okKnown (cs : List Str) : Str → D → Bool := fun _ y => knownD cs y
def mEqO (cs : List Str) (own : Own) (a b : Ex) : Ex := mDisp (okKnown cs) own eqD some a b
def notRV : RV → Option RV
  | .d (.bl b) => some (.d (.bl !b))
  | _ => none
def mNeO (cs : List Str) (own : Own) (a b : Ex) : Ex := mDisp (okKnown cs) own neD notRV a b
/-- the classes' == : all that their instances may be beside -/
structure EqF (K : PySem.W.Frag) (mg : Str → Option Value) (cls : Str → Option Addr) (cs : List Str) (own : Own) : Prop where
  cf : ∀ q ∈ own, ClsF K mg cls cs q.1
  ne : ∀ q ∈ own, ∀ C, cls q.1 = some C → PySem.W.subIn K (.ref C) (.type "object") = some true ∧ PySem.W.findIn K (.ref C) "__ne__" = some (some (.builtin "object.__ne__"))
theorem rept_of {F H : Hp} {v : V} {x : D} (r : Rep G F v x) : RepT G F H v x := .inl r
/-- the own way of == and != -/
theorem eq_way {cs : List Str} {post : RV → Option RV} {σ : L2.St} {v u : V} {H : Hp} {Q : VK} {pins : List (Addr × Obj)} {s : Shared} {vv uu : Value} (hK : X.K = G.K) (d : Duns X.prog X.w X.K X.mg X.base G j "__eq__" 2 own) (ef : EqF X.K X.mg G.cls cs own) (I : Inv X pins σ H s) (rx : RelV v vv) (ry : RelV u uu)
    (q : DispQ X G W (okKnown cs) own post σ v u H Q) : ∃ (b : Addr) (c : Str) (C : Addr) (fn : Fn) (od : Obj) (t : Value) (k : Nat) (fa : Addr) (fd : FuncData) (ps : List Str) (C0 dx : Addr), vv = .ref b ∧ v = .ref b ∧ (c, fn) ∈ own ∧ G.cls c = some C ∧ PySem.W.InstAt s.heap b (PySem.W.instObj C dx) C (some od) ∧ PySem.W.Looks (model X.prog X.w) s.heap (typeOf uu) t ∧ PySem.W.notFirst X.K C t = true ∧
      PySem.W.findIn X.K (.ref C) "__eq__" = some (some (.ref fa)) ∧ PySem.W.isFn X.K (.ref fa) = true ∧ k ≤ j ∧ FnOk X.prog X.w X.K X.mg X.base (L2.CX X.prog X.w) k fa fd ps (spM G fn 2) ∧ Binds X.K fd ps [] ∧
      spM G fn 2 [v, u] H (fun z H' => ∃ F' ρ' g' rv rv', Good G g' F' ρ' σ H' ∧ RepV G g' F' H' ρ' σ z rv ∧ post rv = some rv' ∧ ∀ z', RepV G g' F' H' ρ' σ z' rv' → Q z' H') (WE W σ) := by
  obtain ⟨F, ρ, g', c, es, y, fn, I3, r1, r2, hm, hok, k⟩ := q
  obtain ⟨k0, hk, C, fa, fd, ps, hC, cl, hs, hf, hkp, hfi, fo, hbd⟩ := d _ hm
  obtain ⟨b1, C1, dx, fs, rfl, h0, h1, h2⟩ := rep_ins I3.fh r1
  rw [hC] at h0
  cases h0
  cases (show vv = Value.ref b1 from rx)
  obtain ⟨od1, J1⟩ := inst_at I h1
  obtain ⟨t, C', d1, d2, d3, d4⟩ := known_ty (H := H) hK (ef.cf _ hm) I3.fh (.inl r2) hok
  rw [hC] at d1
  cases d1
  obtain ⟨P, Z, p, _⟩ := kit_of I ry d2
  refine ⟨b1, c, C, fn, od1, t, k0, fa, fd, ps, C, dx, rfl, rfl, hm, hC, J1, Z.ty _ _ I.kIn p, d3, hs, hf, hk, fo, hbd, ?_⟩
  refine app_sp I3 (.cons r1 (.cons r2 .nil)) rfl (k.bind.imp fun F' H' ρ' rv s' I' kk z rz => ?_)
  cases q : post rv with
  | none => rw [q] at kk; exact kk.elim
  | some rv' =>
    rw [q] at kk
    exact ⟨F', ρ', g', rv, rv', I', rz, q, fun z' rz' => kk F' H' (.refl _) I' z' rz'⟩
theorem eqO_op {cs : List Str} (hK : X.K = G.K) (hu : X.A.units + 64 < cLine) (d : Duns X.prog X.w X.K X.mg X.base G j "__eq__" 2 own) (ef : EqF X.K X.mg G.cls cs own) (hr : Room j X.A) (tk : Takes X W) {pins : List (Addr × Obj)} {s2 : Shared} {σ : L2.St} {H2 : Hp} {x y : V} {v u : Value} {Q : VK} (I2 : Inv X pins σ H2 s2) (rx : RelV x v) (ry : RelV y u)
    (q : rD G eqD x y H2 Q ∨ DispQ X G W (okKnown cs) own some σ x y H2 Q) : wpAny (model X.prog X.w) X.A (compareOp .Eq v u) (EP X pins σ Q) X.xe s2 := by
  rcases q with q | q
  · exact (o_eq hK hu) pins s2 σ H2 x y v u Q I2 rx ry q
  · obtain ⟨b1, c, C, fn, od, t, k0, fa, fd, ps, C0, dx, e1, e2, hm, hC, J1, lk, nf, hs, hf, hk, fo, hbd, sp⟩ := eq_way hK d ef I2 rx ry q
    subst e1
    subst e2
    obtain ⟨m0, hF⟩ := I2.fr
    show wpAny _ _ (richCompare .Eq _ _) _ _ _
    refine PySem.W.cmp_K (op := .Eq) hr.units0 hF I2.ok.mod.kin J1 lk nf hs hf (wpAny_mono (run_fnS (E := WE W) (us := [.ref b1, u]) (vs := [.ref b1, y]) fo (hr.mono hk) hbd (passAt tk σ) I2 (.cons rfl (.cons ry .nil)) sp) (fun w s' z => ?_) fun _ _ x => x)
    obtain ⟨z', H', I', rz, F', ρ', g', rv, rv', I5, r5, ep, kk⟩ := z
    cases ep
    exact SlX.cmpback rz ⟨z', H', I', rz, kk _ r5⟩
theorem me_eqO {cs : List Str} {a b : Expr} {f h : Ex} (hK : X.K = G.K) (hu : X.A.units + 64 < cLine) (d : Duns X.prog X.w X.K X.mg X.base G j "__eq__" 2 own) (ef : EqF X.K X.mg G.cls cs own) (hr : Room j X.A) (tk : Takes X W)
    (ha : ME X G g W a f) (hb : ME X G g W b h) (hmk : behindInMarks .Eq b = false) : ME X G g W (.Compare a [.Eq] [b] pos) (mEqO cs own f h) := by
  refine ⟨fun pins s σ H Q I hh => ?_⟩
  exact wpAny_Compare1 (binT (R := fun v u H2 => rD G eqD v u H2 Q ∨ DispQ X G W (okKnown cs) own some σ v u H2 Q) (me_hold ha) (me_hold hb) I (disp_go hh) fun v u s2 x y H2 I2 rx ry q => eqO_op hK hu d ef hr tk I2 rx ry q) hmk
theorem mt_eqO {cs : List Str} {a b : Expr} {f h : Ex} (hK : X.K = G.K) (hu : X.A.units + 64 < cLine) (d : Duns X.prog X.w X.K X.mg X.base G j "__eq__" 2 own) (ef : EqF X.K X.mg G.cls cs own) (hr : Room j X.A) (tk : Takes X W)
    (ha : ME X G g W a f) (hb : ME X G g W b h) (hmk : behindInMarks .Eq b = false) : MT X G g W (.Compare a [.Eq] [b] pos) (mTestB (mEqO cs own f h)) := by
  refine ⟨fun pins s σ H Q I hh => ?_⟩
  obtain ⟨F, ρ, J, k⟩ := tM_testB hh
  have go := disp_go (X := X) (Q := fun x H' => ∃ k, x = .bl k ∧ Q k H') ⟨F, ρ, J, k⟩
  refine wpAny_isTrue_Compare1 (thn ((me_hold ha).run pins s σ H _ I go) fun v s1 ⟨x, H1, I1, r1, q1⟩ => thn ((me_hold hb).run pins s1 σ H1 _ I1 q1) fun u s2 ⟨y, H2, I2, r2, q2⟩ => thn (eqO_op hK hu d ef hr tk I2 r1 r2 q2) fun c s3 ⟨z, H3, I3, r3, k, e, q3⟩ => ?_) hmk
  subst e
  cases r3
  exact wpAny_truthy_bool ⟨H3, I3, q3⟩
end
end MM
set_option Elab.async false
set_option maxRecDepth 100000
set_option maxHeartbeats 2000000
namespace MM
open PySem PySem.Spec PySem.Calls PyProof.Rows L2
/-! ### != where only == is the class's own -/
section
variable {prog : Program} {w : World} {A : Around} {E : Value → Shared → Prop} {s : Shared} {K : PySem.W.Frag} {x C L f : Addr} {h₀ : Heap} {m : Str → Option Value} {ox : Obj} {od : Option Obj} {b tb : Value}
def NotBack (Q : Value → Shared → Prop) (v : Value) (s' : Shared) : Prop := match v with
  | .bool r => Q (.bool (!r)) s'
  | _ => False
def NeR (Q : Value → Shared → Prop) (E : Value → Shared → Prop) : Result → Shared → Prop := fun r s' => match r with
  | .ok (.ret v) => ∃ r, v = .bool r ∧ Q (.bool r) s'
  | .ok _ => False
  | .error e => E e s'
theorem ne_own {Q : Value → Shared → Prop} (hu : A.units < cLine) (hu1 : A.in1.units < cLine) (FR : Fr h₀ L s.heap m) (X₀ : K.In h₀) (I : PySem.W.InstAt s.heap x ox C od) (hb : PySem.W.Looks (model prog w) s.heap (typeOf b) tb) (hn : PySem.W.notFirst K C tb = true)
    (hne : PySem.W.findIn K (.ref C) "__ne__" = some (some (.builtin "object.__ne__"))) (hob : PySem.W.subIn K (.ref C) (.type "object") = some true) (hs : PySem.W.findIn K (.ref C) "__eq__" = some (some (.ref f))) (hf : PySem.W.isFn K (.ref f) = true)
    (h : wpAny (model prog w) A.in1 (call (.ref f) [.ref x, b]) (NotBack Q) E s) : wpAny (model prog w) A (richCompare .NotEq (.ref x) b) Q E s := by
  have X := X₀.keeps FR.keep
  -- the built-in's body
  have body : wpAny (model prog w) A (call (.builtin "object.__ne__") [.ref x, b]) (fun v s' => ∃ r, v = .bool r ∧ Q (.bool r) s') E s := by
    refine wpAny_call (codeAny_call_builtin PySem.F.cmp_object.ne.plain PySem.F.cmpEntry_ne ?_)
    simp only [checkBuiltinCall, PySem.F.cmpKind_ne, PySem.F.cmpSplit_ne]
    have inner : wpAny (model prog w) A.in1 (Builtin.«object.__ne__» ⟨[.ref x, b], []⟩) (fun fin s' => match fin with
      | .done f => NeR Q E (.ok f) s'
      | .again c' => c'.quiet = true ∧ codeAny (model prog w) A c' (NeR Q E) s') (fun e s' => E e s') s := by
      unfold Builtin.«object.__ne__»
      refine wpAny_bind (wpAny_pure ?_)
      refine wpAny_bind (wpAny_cRoomFor hu1 ?_)
      refine wpAny_bind (PySem.W.ifBound_K X I hs hf (wpAny_mono h (fun v s' hv => ?_) fun _ _ z => z))
      cases v <;> first | exact hv.elim | skip
      rename_i r
      refine wpAny_bind (wpAny_truthy_bool ?_)
      exact wpAny_pure ⟨!r, rfl, hv⟩
    refine wpAny_bind ?_
    unfold isInstance
    refine wpAny_bind (I.type.here ((PySem.W.looks_subIn X hob).here ?_))
    have ha := PySem.F.cmpArgs_ne (.ref x) b
    cases hsig : Manifest.signature? "object.__ne__" with
    | none => exact wpAny_pure inner
    | some sig =>
      simp only [PySem.argsOk, hsig] at ha
      have h2 : Bind.checkArgs "object.__ne__" sig ⟨[.ref x, b], []⟩ = pure () := ha
      show wpAny _ _ (Bind.checkArgs "object.__ne__" sig ⟨[.ref x, b], []⟩) _ _ _
      rw [h2]
      exact wpAny_pure inner
  have one : wpAny (model prog w) A (tryCompare (.ref x) (cmpInfo .NotEq).2.1 b) (fun r s' => ∃ v, r = some (.bool v) ∧ Q (.bool v) s') E s := by
    unfold tryCompare
    refine wpAny_bind ?_
    simp only [callSpecialIfBound?, bindSpecialIfBound?]
    refine wpAny_holding (wpAny_bind (wpAny_bind (wpAny_bind (I.type.here ((PySem.W.looks_findIn X hne).here ?_)))))
    refine wpAny_bind (wpAny_askSetting (wpAny_ite ?_))
    rw [PySem.F.cmp_object.ne.bind]
    have fin : wpAny (model prog w) A (call (.builtin "object.__ne__") ([.ref x] ++ [b]) >>= fun v => pure (some v)) (fun a s' => wpAny (model prog w) A (match a with
      | some Value.notImplemented => pure none
      | none => pure none
      | some v => pure (some v)) (fun r s' => ∃ v, r = some (Value.bool v) ∧ Q (Value.bool v) s') E s') E s := wpAny_bind (wpAny_mono body (fun v s' h' => by
        obtain ⟨r, rfl, q⟩ := h'
        exact wpAny_pure (wpAny_pure ⟨r, rfl, q⟩)) fun _ _ h' => h')
    split
    · exact wpAny_bind (wpAny_pure (wpAny_pure fin))
    · exact wpAny_tryCatch (wpAny_bind (wpAny_pure (wpAny_pure fin)))
  unfold richCompare
  simp only [oneThing_ref]
  refine wpAny_holding (wpAny_bind (wpAny_cRoomFor hu ?_))
  refine wpAny_bind (I.type.here (wpAny_bind (hb.here ?_)))
  have two : ∀ {k : Option Value → Sem Value}, (∀ v s', Q (.bool v) s' → wpAny (model prog w) A (k (some (.bool v))) Q E s') → wpAny (model prog w) A (tryCompare (.ref x) (cmpInfo .NotEq).2.1 b >>= k) Q E s := fun hk => wpAny_bind (wpAny_mono one (fun r s' z => by
    obtain ⟨v, rfl, q⟩ := z
    exact hk v s' q) fun _ _ z => z)
  split
  · rename_i q
    have e : PySem.W.subIn K tb (.ref C) = some false := by
      rcases Bool.or_eq_true_iff.mp hn with e | e
      · rw [beq_iff_eq.mp e] at q; simp at q
      · exact beq_iff_eq.mp e
    refine wpAny_bind ((PySem.W.looks_subIn X e).here ?_)
    simp only [Bool.false_eq_true, if_false]
    exact two fun v s' z => wpAny_pure z
  · refine wpAny_bind (wpAny_pure ?_)
    simp only [Bool.false_eq_true, if_false]
    exact two fun v s' z => wpAny_pure z
end
section
variable {X : Cx} {G : GG} {g : Gh} {W : WX} {pos p apos : Pos} {k j n : Nat} {c m : Str} {fn : Fn} {own : Own}
theorem neO_op {cs : List Str} (hK : X.K = G.K) (hu : X.A.units + 64 < cLine) (d : Duns X.prog X.w X.K X.mg X.base G j "__eq__" 2 own) (ef : EqF X.K X.mg G.cls cs own) (hr : Room (j + 1) X.A) (tk : Takes X W) {pins : List (Addr × Obj)} {s2 : Shared} {σ : L2.St} {H2 : Hp} {x y : V} {v u : Value} {Q : VK} (I2 : Inv X pins σ H2 s2) (rx : RelV x v) (ry : RelV y u)
    (q : rD G neD x y H2 Q ∨ DispQ X G W (okKnown cs) own notRV σ x y H2 Q) : wpAny (model X.prog X.w) X.A (compareOp .NotEq v u) (EP X pins σ Q) X.xe s2 := by
  rcases q with q | q
  · exact (o_ne hK hu) pins s2 σ H2 x y v u Q I2 rx ry q
  · obtain ⟨b1, c, C, fn, od, t, k0, fa, fd, ps, C0, dx, e1, e2, hm, hC, J1, lk, nf, hs, hf, hk, fo, hbd, sp⟩ := eq_way hK d ef I2 rx ry q
    subst e1
    subst e2
    obtain ⟨m0, hF⟩ := I2.fr
    show wpAny _ _ (richCompare .NotEq _ _) _ _ _
    obtain ⟨so, ne1⟩ := ef.ne _ hm C hC
    refine ne_own hr.units0 hr.in1.units0 hF I2.ok.mod.kin J1 lk nf ne1 so hs hf (wpAny_mono (run_deep (E := WE W) (us := [.ref b1, u]) (vs := [.ref b1, y]) fo (hr.in1.mono hk) I2.env0.in1 hbd (passAt tk σ) I2 (.cons rfl (.cons ry .nil)) sp) (fun w s' z => ?_) fun _ _ x => x)
    obtain ⟨z', H', I', rz, F', ρ', g', rv, rv', I5, r5, ep, kk⟩ := z
    cases rv with
    | r i => cases ep
    | f x => cases ep
    | d x =>
      cases x with
      | bl bb =>
        cases ep
        cases r5
        cases (show w = Value.bool bb from rz)
        exact ⟨.bl (!bb), H', I', rfl, kk _ (.bl _)⟩
      | _ => cases ep
theorem me_neO {cs : List Str} {a b : Expr} {f h : Ex} (hK : X.K = G.K) (hu : X.A.units + 64 < cLine) (d : Duns X.prog X.w X.K X.mg X.base G j "__eq__" 2 own) (ef : EqF X.K X.mg G.cls cs own) (hr : Room (j + 1) X.A) (tk : Takes X W)
    (ha : ME X G g W a f) (hb : ME X G g W b h) (hmk : behindInMarks .NotEq b = false) : ME X G g W (.Compare a [.NotEq] [b] pos) (mNeO cs own f h) := by
  refine ⟨fun pins s σ H Q I hh => ?_⟩
  exact wpAny_Compare1 (binT (R := fun v u H2 => rD G neD v u H2 Q ∨ DispQ X G W (okKnown cs) own notRV σ v u H2 Q) (me_hold ha) (me_hold hb) I (disp_go hh) fun v u s2 x y H2 I2 rx ry q => neO_op hK hu d ef hr tk I2 rx ry q) hmk
theorem mt_neO {cs : List Str} {a b : Expr} {f h : Ex} (hK : X.K = G.K) (hu : X.A.units + 64 < cLine) (d : Duns X.prog X.w X.K X.mg X.base G j "__eq__" 2 own) (ef : EqF X.K X.mg G.cls cs own) (hr : Room (j + 1) X.A) (tk : Takes X W)
    (ha : ME X G g W a f) (hb : ME X G g W b h) (hmk : behindInMarks .NotEq b = false) : MT X G g W (.Compare a [.NotEq] [b] pos) (mTestB (mNeO cs own f h)) := by
  refine ⟨fun pins s σ H Q I hh => ?_⟩
  obtain ⟨F, ρ, J, k⟩ := tM_testB hh
  have go := disp_go (X := X) (Q := fun x H' => ∃ k, x = .bl k ∧ Q k H') ⟨F, ρ, J, k⟩
  refine wpAny_isTrue_Compare1 (thn ((me_hold ha).run pins s σ H _ I go) fun v s1 ⟨x, H1, I1, r1, q1⟩ => thn ((me_hold hb).run pins s1 σ H1 _ I1 q1) fun u s2 ⟨y, H2, I2, r2, q2⟩ => thn (neO_op hK hu d ef hr tk I2 r1 r2 q2) fun c s3 ⟨z, H3, I3, r3, k, e, q3⟩ => ?_) hmk
  subst e
  cases r3
  exact wpAny_truthy_bool ⟨H3, I3, q3⟩
/-! ### x[i] -/
def okIx : Str → D → Bool := fun _ _ => true
def mIxO (own : Own) (a b : Ex) : Ex := mDisp okIx own ixD some a b
theorem me_ixO {a b : Expr} {f h : Ex} (hK : X.K = G.K) (d : Duns X.prog X.w X.K X.mg X.base G j "__getitem__" 2 own) (hr : Room (j + 1) X.A) (tk : Takes X W) (ha : ME X G g W a f) (hb : ME X G g W b h) (hs : PlainIx b := by exact fun _ _ => rfl)
    (hsl : ∀ v u, subscripted b true v u = runValue (.builtin "lifetime.subscript" ⟨[v, u], []⟩) := by intro _ _; with_unfolding_all rfl) : ME X G g W (.Subscript a b pos) (mIxO own f h) := by
  refine ⟨fun pins s σ H Q I hh => ?_⟩
  refine Subscript_ (binT (R := fun v u H2 => rD G ixD v u H2 Q ∨ DispQ X G W okIx own some σ v u H2 Q) (me_hold ha) (me_hold hb) I (disp_go hh) fun v u s2 x y H2 I2 rx ry q => ?_)
  rcases q with q | ⟨F, ρ, g', c, es, yd, fn, I3, r1, r2, hm, hok, k⟩
  · exact (i_ix hK) a b pins s2 σ H2 x y v u Q I2 rx ry q (hs _ _)
  · obtain ⟨k0, hk, C, fa, fd, ps, hC, cl, hss, hf, hkp, hfi, fo, hbd⟩ := d _ hm
    obtain ⟨b1, C1, dx, fs, rfl, h0, h1, h2⟩ := rep_ins I3.fh r1
    rw [hC] at h0
    cases h0
    cases (show v = Value.ref b1 from rx)
    obtain ⟨od1, J1⟩ := inst_at I2 h1
    obtain ⟨m0, hF⟩ := I2.fr
    have sp : spM G fn 2 [.ref b1, y] H2 Q (WE W σ) := app_sp I3 (.cons r1 (.cons r2 .nil)) rfl (post_some k)
    exact PySem.W.sub_K hF I2.ok.mod.kin J1 hss hfi hf (run_deep (E := WE W) (us := [.ref b1, u]) (vs := [.ref b1, y]) fo (hr.in1.mono hk) I2.env0.in1 hbd (passAt tk σ) I2 (.cons rfl (.cons ry .nil)) sp) (hsl _ _)
end
end MM
set_option Elab.async false
set_option maxRecDepth 100000
set_option maxHeartbeats 2000000
namespace MM
open PySem PySem.Spec PySem.Calls PyProof.Rows L2
section
variable {X : Cx} {G : GG} {g : Gh} {W : WX} {pos p apos : Pos} {k j n : Nat} {c m : Str} {fn : Fn} {own : Own}
/-! ### len(x), str(x) -/
/-- one argument: an own instance by its class's function, else the usual way -/
def mOne (own : Own) (std : D → Option RV) (post : RV → Option RV) (a : Ex) : Ex := fun ρ => (mHold a ρ).bind fun h ρ1 => match peekH ρ1 h with
  | some (.ins _ _) => (forceHs [h] ρ1).bind fun xs ρ2 => (match xs with
    | [.ins c es] => (match ownAt own c with
      | some fn => (mApp fn [.ins c es] ρ2).bind fun rv ρ3 => ret (post rv) ρ3
      | none => .bad)
    | _ => .bad)
  | some x => ret (std x) ρ1
  | none => .bad
def OneQ (X : Cx) (G : GG) (W : WX) (own : Own) (post : RV → Option RV) (σ : L2.St) (v : V) (H : Hp) (Q : VK) : Prop :=
  ∃ F ρ g c es fn, Good G g F ρ σ H ∧ Rep G F v (.ins c es) ∧ (c, fn) ∈ own ∧ Post G g W F σ ((mApp fn [.ins c es] ρ).bind fun rv ρ4 => ret (post rv) ρ4) fun F' H' ρ' rv => ∀ v, RepV G g F' H' ρ' σ v rv → Q v H'
def rOne (G : GG) (std : D → Option RV) (v : V) (H : Hp) (Q : VK) : Prop := ∃ F x rv, Same F H ∧ RepT G F H v x ∧ std x = some rv ∧ ∀ F' H' w, Step F H F' H' → RepO G H F' H' w rv → Q w H'
theorem one_go {std : D → Option RV} {post : RV → Option RV} {f : Ex} {σ : L2.St} {H : Hp} {Q : VK} (hh : tM G g W (mOne own std post f) σ H Q) : tMH G g W (mHold f) σ H fun v H1 => rOne G std v H1 Q ∨ OneQ X G W own post σ v H1 Q := by
  obtain ⟨F, ρ, J, hh⟩ := hh
  refine ⟨F, ρ, J, hh.bind.imp fun F1 H1 ρ1 ra s1 I1 k1 v r => ?_⟩
  have stdW : ∀ x, peekH ρ1 ra = some x → Post G g W F1 σ (ret (std x) ρ1) (fun F' H' ρ' rv => ∀ v, RepV G g F' H' ρ' σ v rv → Q v H') → rOne G std v H1 Q := fun x q1 k2 => by
    unfold ret at k2
    cases q3 : std x with
    | none => rw [q3] at k2; exact k2.elim
    | some rv =>
      rw [q3] at k2
      exact ⟨F1, x, rv, I1.fh, peekH_rep I1 r q1, q3, fun F3 H3 w st ro => k2 F3 H3 st.ff (I1.step st) w (ro.toV I1 st)⟩
  cases q1 : peekH ρ1 ra with
  | none => rw [q1] at k1; exact k1.elim
  | some x =>
    rw [q1] at k1
    cases x with
    | ins c1 e1 =>
      refine .inr ?_
      have rs : RepHs G F1 σ [v] [ra] := .cons r .nil
      obtain ⟨F3, ρ3, xs, s3, I3, ra3, k3⟩ := Post.forced I1 rs k1.bind
      cases ra3 with
      | @cons v' vs' x1 xs1 rx1 rt1 =>
        cases rt1 with
        | nil =>
          cases x1 with
          | ins c es =>
            dsimp only at k3
            cases q : ownAt own c with
            | none => rw [q] at k3; exact k3.elim
            | some fn =>
              rw [q] at k3
              exact ⟨F3, ρ3, g, c, es, fn, I3, rx1, ownAt_mem q, k3⟩
          | _ => exact k3.elim
    | _ => exact .inl (stdW _ q1 k1)
/-- the own way, unpacked -/
theorem one_way {post : RV → Option RV} {σ : L2.St} {v : V} {H : Hp} {Q : VK} {pins : List (Addr × Obj)} {s : Shared} {vv : Value} (d : Duns X.prog X.w X.K X.mg X.base G j m 1 own) (I : Inv X pins σ H s) (rx : RelV v vv)
    (q : OneQ X G W own post σ v H Q) : ∃ (b : Addr) (C dx : Addr) (fn : Fn) (od : Obj) (k : Nat) (fa : Addr) (fd : FuncData) (ps : List Str), vv = .ref b ∧ v = .ref b ∧ PySem.W.InstAt s.heap b (PySem.W.instObj C dx) C (some od) ∧
      PySem.W.findIn X.K (.ref C) m = some (some (.ref fa)) ∧ PySem.W.isFn X.K (.ref fa) = true ∧ k ≤ j ∧ FnOk X.prog X.w X.K X.mg X.base (L2.CX X.prog X.w) k fa fd ps (spM G fn 1) ∧ Binds X.K fd ps [] ∧
      spM G fn 1 [v] H (fun z H' => ∃ F' ρ' g' rv rv', Good G g' F' ρ' σ H' ∧ RepV G g' F' H' ρ' σ z rv ∧ post rv = some rv' ∧ ∀ z', RepV G g' F' H' ρ' σ z' rv' → Q z' H') (WE W σ) := by
  obtain ⟨F, ρ, g', c, es, fn, I3, r1, hm, k⟩ := q
  obtain ⟨k0, hk, C, fa, fd, ps, hC, cl, hs, hf, hkp, hfi, fo, hbd⟩ := d _ hm
  obtain ⟨b1, C1, dx, fs, rfl, h0, h1, h2⟩ := rep_ins I3.fh r1
  rw [hC] at h0
  cases h0
  cases (show vv = Value.ref b1 from rx)
  obtain ⟨od1, J1⟩ := inst_at I h1
  refine ⟨b1, C, dx, fn, od1, k0, fa, fd, ps, rfl, rfl, J1, hs, hf, hk, fo, hbd, ?_⟩
  refine app_sp I3 (.cons r1 .nil) rfl (k.bind.imp fun F' H' ρ' rv s' I' kk z rz => ?_)
  cases q : post rv with
  | none => rw [q] at kk; exact kk.elim
  | some rv' =>
    rw [q] at kk
    exact ⟨F', ρ', g', rv, rv', I', rz, q, fun z' rz' => kk F' H' (.refl _) I' z' rz'⟩
def lenRV : RV → Option RV
  | .d (.int n) => if 0 ≤ n ∧ n.natAbs.log2 < 62 then some (.d (.int n)) else none
  | _ => none
def len1 : D → Option RV := fun x => lenD [x]
def mLenO (own : Own) (a : Ex) : Ex := mOne own len1 lenRV a
theorem me_lenO {e : Expr} {f : Ex} (hK : X.K = G.K) (d : Duns X.prog X.w X.K X.mg X.base G j "__len__" 1 own) (hr : Room (j + 1) X.A) (tk : Takes X W) (hg : Gl X "len") (hm : X.mg "len" = none) (ha : ME X G g W e f)
    (he : starEach [e] X.env = (false, eval e X.env) :: starEach [] X.env := by rfl) (hpl : (backTo pos (starEach [] X.env)).any (·.1) = false := by rfl) : ME X G g W (.Call (.Name "len" p) [e] [] pos) (mLenO own f) := by
  refine ⟨fun pins s σ H Q I hh => ?_⟩
  refine wpAny_Call_Name_kw (ld_blt I hg hm boot_len ?_ (by decide) (by decide))
  have pa : PA X [e] (tCons (tMH G g W (mHold f)) tNil) := pa_cons (me_hold ha) pa_nil he
  refine PyProof.Rows.callWith_builtin1 (thn (pa.run pos pins s σ H (fun vs H1 => ∃ v, vs = [v] ∧ (rOne G len1 v H1 Q ∨ OneQ X G W own lenRV σ v H1 Q)) I ?_) fun us s1 ⟨vs, H1, I1, r1, v, ev, q1⟩ => ?_) he hpl
  · obtain ⟨F, ρ, J, k⟩ := one_go (X := X) hh
    exact ⟨F, ρ, J, k.imp fun F1 H1 ρ1 h s1 I1 kk v r => ⟨v, rfl, kk v r⟩⟩
  · subst ev
    rcases q1 with ⟨F, x, rv, sF, rt, es, kk⟩ | q1
    · exact (c_len hK) pins s1 σ H1 [v] us Q I1 r1 ⟨F, [x], rv, sF, .cons rt .nil, es, kk⟩
    · obtain ⟨u, rfl, ru⟩ := r1.one
      obtain ⟨b1, C, dx, fn, od, k0, fa, fd, ps, e1, e2, J1, hs, hf, hk, fo, hbd, sp⟩ := one_way d I1 ru q1
      subst e1
      subst e2
      obtain ⟨m0, hF⟩ := I1.fr
      refine PySem.W.len_K hF I1.ok.mod.kin J1 hs hf (wpAny_mono (run_deep (E := WE W) (us := [.ref b1]) (vs := [.ref b1]) fo (hr.in1.mono hk) I1.env0.in1 hbd (passAt tk σ) I1 (.cons rfl .nil) sp) (fun w s' z => ?_) fun _ _ x => x)
      obtain ⟨z', H', I', rz, F', ρ', g', rv, rv', I5, r5, ep, kk⟩ := z
      cases rv with
      | r i => cases ep
      | f x => cases ep
      | d x =>
        cases x with
        | int nn =>
          unfold lenRV at ep
          dsimp only at ep
          split at ep
          · rename_i hn
            cases ep
            cases r5
            obtain ⟨t, e⟩ := (show ∃ t, w = Value.int nn t from rz)
            subst e
            have hb : nn.natAbs < 2 ^ 62 := log2_back hn.2
            exact ⟨⟨hn.1, by omega⟩, .int nn, H', I'.tok _, ⟨_, rfl⟩, kk _ (.int _)⟩
          · cases ep
        | _ => cases ep
def strI (i : Int) : List Nat := (toString i : Str).cps.toList
def str1 : D → Option RV
  | .int i => if i.natAbs.log2 < 1920 then some (.d (.str (strI i))) else none
  | .str l => some (.d (.str l))
  | _ => none
def strRV : RV → Option RV
  | .d (.str l) => some (.d (.str l))
  | _ => none
def mStrO (own : Own) (a : Ex) : Ex := mOne own str1 strRV a
theorem me_strO {e : Expr} {f : Ex} (d : Duns X.prog X.w X.K X.mg X.base G j "__str__" 1 own) (hr : Room (j + 2) X.A) (tk : Takes X W) (hg : Gl X "str") (hm : X.mg "str" = none) (ha : ME X G g W e f)
    (he : starEach [e] X.env = (false, eval e X.env) :: starEach [] X.env := by rfl) (hpl : (backTo pos (starEach [] X.env)).any (·.1) = false := by rfl) : ME X G g W (.Call (.Name "str" p) [e] [] pos) (mStrO own f) := by
  refine ⟨fun pins s σ H Q I hh => ?_⟩
  refine wpAny_Call_Name_kw (ld_blt (u := .type "str") I hg hm (by decide +kernel) ?_ (by decide) (by decide))
  have pa : PA X [e] (tCons (tMH G g W (mHold f)) tNil) := pa_cons (me_hold ha) pa_nil he
  refine PyProof.Rows.callWith_type1 (thn (pa.run pos pins s σ H (fun vs H1 => ∃ v, vs = [v] ∧ (rOne G str1 v H1 Q ∨ OneQ X G W own strRV σ v H1 Q)) I ?_) fun us s1 ⟨vs, H1, I1, r1, v, ev, q1⟩ => ?_) he hpl
  · obtain ⟨F, ρ, J, k⟩ := one_go (X := X) hh
    exact ⟨F, ρ, J, k.imp fun F1 H1 ρ1 h s1 I1 kk v r => ⟨v, rfl, kk v r⟩⟩
  · subst ev
    rcases q1 with ⟨F, x, rv, sF, rt, es, kk⟩ | q1
    · cases x with
      | int i =>
        unfold str1 at es
        dsimp only at es
        split at es
        · rename_i hz
          cases es
          rw [T_int rt] at r1
          exact call_str_int pins s1 σ H1 _ us Q I1 r1 ⟨i, rfl, hz, kk F H1 _ (.refl sF) (.str rfl)⟩
        · cases es
      | str l =>
        cases es
        obtain ⟨z, e1, e2⟩ := T_str rt
        subst e1
        exact SkE.call_str_str pins s1 σ H1 _ us Q I1 r1 ⟨z, rfl, kk F H1 _ (.refl sF) (.str e2)⟩
      | _ => cases es
    · obtain ⟨u, rfl, ru⟩ := r1.one
      obtain ⟨b1, C, dx, fn, od, k0, fa, fd, ps, e1, e2, J1, hs, hf, hk, fo, hbd, sp⟩ := one_way d I1 ru q1
      subst e1
      subst e2
      have hr2 : Room (j + 1) X.A.in1 := hr.in1
      refine PySem.W.kso_call hr2.in1.units0 I1.kIn J1 hs hf (wpAny_mono (run_deep (E := WE W) (us := [.ref b1]) (vs := [.ref b1]) fo (hr2.in1.mono hk) I1.env0.in1.in1 hbd (passAt tk σ) I1 (.cons rfl .nil) sp) (fun w s' z => ?_) fun _ _ x => x)
      obtain ⟨z', H', I', rz, F', ρ', g', rv, rv', I5, r5, ep, kk⟩ := z
      cases rv with
      | r i => cases ep
      | f x => cases ep
      | d x =>
        cases x with
        | str l =>
          cases ep
          cases r5 with
          | @str y _ e5 =>
            obtain ⟨t, e⟩ := (show ∃ t, w = Value.str y t from rz)
            subst e
            exact ⟨.str y, H', I', ⟨t, rfl⟩, kk _ (.str e5)⟩
        | _ => cases ep
end
end MM
set_option Elab.async false
set_option maxRecDepth 100000
set_option maxHeartbeats 2000000
namespace MM
open PySem PySem.Spec PySem.Calls PyProof.Rows L2
section
variable {X : Cx} {G : GG} {g : Gh} {W : WX} {pos p apos : Pos} {k j n : Nat} {c m : Str} {fn : Fn} {own : Own}
/-! ### o.m(e, ..): o and the arguments as data -/
def mMethO (n : Nat) (m : Str) (own : Own) (a : Ex) (r : List S → R (List HV)) : Ex := fun ρ => (mForce a ρ).bind fun x ρ1 => match x with
  | .ins c es => (match ownAt own c with
    | some fn => if (es.lookup m).isNone = true then (r ρ1).bind fun hs ρ2 => (forceHs hs ρ2).bind fun xs ρ3 => if xs.length + 1 = n then mApp fn (.ins c es :: xs) ρ3 else .bad else .bad
    | none => .bad)
  | _ => .bad
/-- what a method's call is asked, behind its object -/
def MethQ (X : Cx) (G : GG) (W : WX) (own : Own) (n : Nat) (m : Str) (t : TA) (σ : L2.St) (x : V) (H : Hp) (Q : VK) : Prop := ∃ a c C dx fs fn, x = .ref a ∧ G.cls c = some C ∧ H a = some (.ins C dx fs) ∧ fs.lookup m = none ∧ (c, fn) ∈ own ∧ t σ H fun vs H2 => spM G fn n (.ref a :: vs) H2 Q (WE W σ)
theorem methO_go {a : Ex} {r : List S → R (List HV)} {σ : L2.St} {H : Hp} {Q : VK} (h : tM G g W (mMethO n m own a r) σ H Q) : tMD G g W (mForce a) σ H fun x H1 => MethQ X G W own n m (tMA G g W r) σ x H1 Q := by
  obtain ⟨F, ρ, I, k⟩ := h
  refine ⟨F, ρ, I, k.bind.imp fun F1 H1 ρ1 x s1 I1 k1 v rp => ?_⟩
  cases x with
  | ins c es =>
    dsimp only at k1
    cases q : ownAt own c with
    | none => rw [q] at k1; exact k1.elim
    | some fn =>
      rw [q] at k1
      dsimp only at k1
      split at k1
      · rename_i hn
        obtain ⟨b, C, dx, fs, rfl, h0, h1, h2⟩ := rep_ins I1.fh rp
        refine ⟨b, c, C, dx, fs, fn, rfl, h0, h1, h2.no (Option.isNone_iff_eq_none.mp hn), ownAt_mem q, F1, ρ1, I1, k1.bind.imp fun F2 H2 ρ2 hs s2 I2 k2 vs rv => ?_⟩
        obtain ⟨F3, ρ3, xs, s3, I3, ra, k3⟩ := Post.forced I2 rv k2.bind
        split at k3
        · rename_i hl
          exact app_sp I3 (.cons (rp.mono (s2.trans s3)) ra) (by rw [List.length_cons, ra.length]; exact hl) k3
        · exact k3.elim
      · exact k1.elim
  | _ => exact k1.elim
theorem me_methO {pl : Sem Bool} {o e : Expr} {es : List Expr} {a : Ex} {r : List S → R (List HV)} (d : Duns X.prog X.w X.K X.mg X.base G j m n own) (hr : Room j X.A) (tk : Takes X W) (ho : ME X G g W o a) (ha : MA X G g W (e :: es) r)
    (hst : starEach (e :: es) X.env = (false, eval e X.env) :: starEach es X.env := by rfl) (hpl : (backTo pos (starEach es X.env)).any (·.1) = false := by rfl)
    (ht : eval (.Call (.Attribute o m apos) (e :: es) [] pos) X.env = (do
      let ov ← eval o X.env
      standAt apos.atName
      let (f, first) ← holding [ov] (getMethod ov m pl)
      callWith pos f first (backTo pos (starEach (e :: es) X.env)) (backToKw pos (keywordEach [] X.env))) := by rfl) :
    ME X G g W (.Call (.Attribute o m apos) (e :: es) [] pos) (mMethO n m own a r) := by
  refine ⟨fun pins s σ H Q I hh => ?_⟩
  refine PySem.W.methodCall_KW (pl := pl) (thn ((me_force ho).run pins s σ H (fun x H1 => MethQ X G W own n m (tMA G g W r) σ x H1 Q) I (methO_go hh)) fun u s1 ⟨x, H1, I1, rx, b, c, C, dx, fs, fn, ex, hC, ea, l, hm, q⟩ => ?_) ht
  subst ex
  obtain rfl : u = Value.ref b := rx
  obtain ⟨k0, hk, C', fa, fd, ps, hC', cl, hs, hf, hkp, hfi, fo, hbd⟩ := d _ hm
  rw [hC'] at hC
  cases hC
  exact getmeth_ok I1 ea cl ⟨hs, hf, hkp⟩ l (PySem.W.callWith_K (first := [.ref b]) (h₀ := X.base) I.ok.mod.kin hkp (thn (ha.run pos pins s1 σ H1 _ I1 q) fun us s2 ⟨vs, H2, I2, r, q2⟩ => ⟨I2.kIn, run_fnS (E := WE W) (us := .ref b :: us) (vs := .ref b :: vs) fo (hr.mono hk) hbd (passAt tk σ) I2 (.cons rfl r) q2⟩) hst hpl)
theorem me_methO0 {pl : Sem Bool} {o : Expr} {a : Ex} (d : Duns X.prog X.w X.K X.mg X.base G j m n own) (hr : Room j X.A) (tk : Takes X W) (ho : ME X G g W o a)
    (ht : eval (.Call (.Attribute o m apos) [] [] pos) X.env = (do
      let ov ← eval o X.env
      standAt apos.atName
      let (f, first) ← holding [ov] (getMethod ov m pl)
      callWith pos f first (backTo pos (starEach [] X.env)) (backToKw pos (keywordEach [] X.env))) := by rfl) :
    ME X G g W (.Call (.Attribute o m apos) [] [] pos) (mMethO n m own a mNil) := by
  refine ⟨fun pins s σ H Q I hh => ?_⟩
  refine PySem.W.methodCall_KW (pl := pl) (thn ((me_force ho).run pins s σ H (fun x H1 => MethQ X G W own n m (tMA G g W mNil) σ x H1 Q) I (methO_go hh)) fun u s1 ⟨x, H1, I1, rx, b, c, C, dx, fs, fn, ex, hC, ea, l, hm, F2, ρ2, I2, q⟩ => ?_) ht
  subst ex
  obtain rfl : u = Value.ref b := rx
  obtain ⟨k0, hk, C', fa, fd, ps, hC', cl, hs, hf, hkp, hfi, fo, hbd⟩ := d _ hm
  rw [hC'] at hC
  cases hC
  exact getmeth_ok I1 ea cl ⟨hs, hf, hkp⟩ l (PySem.W.callWith_K0 (first := [.ref b]) I1.kIn hkp (run_fnS (E := WE W) (us := [.ref b]) (vs := [.ref b]) fo (hr.mono hk) hbd (passAt tk σ) I1 (.cons rfl .nil) (q F2 H1 (.refl _) I2 [] .nil)))
/-! ### o.f, a property -/
structure Prp (P : Program) (w : World) (K : PySem.W.Frag) (mg : Str → Option Value) (base : Heap) (G : GG) (k : Nat) (c f : Str) (fn : Fn) : Prop where
  ex : ∃ (C pr ga : Addr) (fd : FuncData) (ps : List Str), G.cls c = some C ∧ Cls K C ∧ PropOf K C f pr ga ∧ FnOk P w K mg base (L2.CX P w) k ga fd ps (spM G fn 1) ∧ Binds K fd ps []
def Prps (P : Program) (w : World) (K : PySem.W.Frag) (mg : Str → Option Value) (base : Heap) (G : GG) (j : Nat) (f : Str) (own : Own) : Prop := ∀ q ∈ own, ∃ k, k ≤ j ∧ Prp P w K mg base G k q.1 f q.2
theorem prps_nil {P : Program} {w : World} {K : PySem.W.Frag} {mg : Str → Option Value} {base : Heap} {G : GG} {j : Nat} {f : Str} : Prps P w K mg base G j f [] := fun q h => by cases h
theorem prps_cons {P : Program} {w : World} {K : PySem.W.Frag} {mg : Str → Option Value} {base : Heap} {G : GG} {j k : Nat} {f c : Str} {fn : Fn} {own : Own} (d : Prp P w K mg base G k c f fn) (hk : k ≤ j) (r : Prps P w K mg base G j f own) : Prps P w K mg base G j f ((c, fn) :: own) := fun q h => by
  rcases List.mem_cons.mp h with rfl | h
  · exact ⟨k, hk, d⟩
  · exact r q h
def mPropO (own : Own) (a : Ex) : Ex := fun ρ => (mForce a ρ).bind fun x ρ1 => match x with
  | .ins c es => (match ownAt own c with
    | some fn => (match fn [.d (.ins c es)] with
      | .rt rv _ => .ok rv ρ1
      | _ => .bad)
    | none => .bad)
  | _ => .bad
theorem me_propO {f : Str} {e : Expr} {a : Ex} (d : Prps X.prog X.w X.K X.mg X.base G j f own) (hr : Room (j + 1) X.A) (he : ME X G g W e a) (hab : attributeBase e f X.env (eval e X.env) = eval e X.env := by rfl) : ME X G g W (.Attribute e f pos) (mPropO own a) := by
  refine ⟨fun pins s σ H Q I ⟨F, ρ, J, hh⟩ => ?_⟩
  refine attr_of hab (thn ((me_force he).run pins s σ H (fun x H1 => ∃ b c C dx fs fn, x = .ref b ∧ G.cls c = some C ∧ H1 b = some (.ins C dx fs) ∧ (c, fn) ∈ own ∧ spM G fn 1 [.ref b] H1 Q (fun _ _ _ => False)) I ⟨F, ρ, J, hh.bind.imp fun F1 H1 ρ1 x s1 I1 k1 v r => ?_⟩) fun u s1 ⟨x, H1, I1, rx, b, c, C, dx, fs, fn, ex, hC, ea, hm, q⟩ => ?_)
  · cases x with
    | ins c es =>
      dsimp only at k1
      cases q : ownAt own c with
      | none => rw [q] at k1; exact k1.elim
      | some fn =>
        rw [q] at k1
        dsimp only at k1
        obtain ⟨b, C, dx, fs, rfl, h0, h1, h2⟩ := rep_ins I1.fh r
        refine ⟨b, c, C, dx, fs, fn, rfl, h0, h1, ownAt_mem q, spM_data I1 (.cons r .nil) rfl ?_⟩
        show match fn [S.d (.ins c es)] with
          | .rt rv _ => _
          | .ex e _ => _
          | .bad => False
        cases q : fn [S.d (.ins c es)] with
        | bad => rw [q] at k1; exact k1
        | ex e ρf => rw [q] at k1; exact k1.elim
        | rt rv ρf =>
          rw [q] at k1
          exact fun F5 H5 s5 I5 v rv => k1 F5 H5 s5 I5 v rv
    | _ => exact k1.elim
  · subst ex
    obtain rfl : u = Value.ref b := rx
    obtain ⟨k0, hk, C', pr, ga, fd, ps, hC', cl, hp, fo, hbd⟩ := d _ hm
    rw [hC'] at hC
    cases hC
    exact getprop_ok I1 ea cl hp fo (hr.mono (by omega)) hbd .nil never_out q
/-! ### C.m(e, ..): a static method; a class method -/
structure StM (P : Program) (w : World) (K : PySem.W.Frag) (mg : Str → Option Value) (base : Heap) (G : GG) (k : Nat) (c m : Str) (n : Nat) (fn : Fn) : Prop where
  ex : ∃ (C q f : Addr) (fd : FuncData) (ps : List Str) (mc : Value) (rest : List Value), G.cls c = some C ∧ ClX.CRead K C mc ∧ PySem.W.findCls K (.ref C) mc m = some (.get (.builtin "staticmethod.__get__") (.ref q) .none (.ref C)) ∧ PySem.W.recIn K q "staticmethod" = some (.ref f :: rest) ∧ PySem.W.keepIn K (.ref f) = true ∧
    FnOk P w K mg base (L2.CX P w) k f fd ps (spM G fn n) ∧ Binds K fd ps []
structure CmM (P : Program) (w : World) (K : PySem.W.Frag) (mg : Str → Option Value) (base : Heap) (G : GG) (k : Nat) (c m : Str) (n : Nat) (fn : Fn) : Prop where
  ex : ∃ (C q f : Addr) (fd : FuncData) (ps : List Str) (mc : Value), G.cls c = some C ∧ ClX.CRead K C mc ∧ ClX.CMet K C mc m q f ∧ FnOk P w K mg base (L2.CX P w) k f fd ps (spM G fn n) ∧ Binds K fd ps []
def mStat (n : Nat) (c : Str) (fn : Fn) (a : Ex) (r : List S → R (List HV)) : Ex := fun ρ => (mForce a ρ).bind fun x ρ1 => match x with
  | .cls c' => if c' = c then (r ρ1).bind fun hs ρ2 => (forceHs hs ρ2).bind fun xs ρ3 => if xs.length = n then mApp fn xs ρ3 else .bad else .bad
  | _ => .bad
def mClsM (n : Nat) (c : Str) (fn : Fn) (a : Ex) (r : List S → R (List HV)) : Ex := fun ρ => (mForce a ρ).bind fun x ρ1 => match x with
  | .cls c' => if c' = c then (r ρ1).bind fun hs ρ2 => (forceHs hs ρ2).bind fun xs ρ3 => if xs.length + 1 = n then mApp fn (.cls c :: xs) ρ3 else .bad else .bad
  | _ => .bad
theorem stat_go {a : Ex} {r : List S → R (List HV)} {σ : L2.St} {H : Hp} {Q : VK} {C : Addr} (hC : G.cls c = some C) (h : tM G g W (mStat n c fn a r) σ H Q) : tMD G g W (mForce a) σ H fun x H1 => x = .ref C ∧ tMA G g W r σ H1 fun vs H2 => spM G fn n vs H2 Q (WE W σ) := by
  obtain ⟨F, ρ, I, k⟩ := h
  refine ⟨F, ρ, I, k.bind.imp fun F1 H1 ρ1 x s1 I1 k1 v rp => ?_⟩
  cases x with
  | cls c' =>
    dsimp only at k1
    split at k1
    · rename_i e
      subst e
      cases rp with
      | cls h0 =>
        rw [hC] at h0
        cases h0
        refine ⟨rfl, F1, ρ1, I1, k1.bind.imp fun F2 H2 ρ2 hs s2 I2 k2 vs rv => ?_⟩
        obtain ⟨F3, ρ3, xs, s3, I3, ra, k3⟩ := Post.forced I2 rv k2.bind
        split at k3
        · rename_i hl
          exact app_sp I3 ra (ra.length.trans hl) k3
        · exact k3.elim
    · exact k1.elim
  | _ => exact k1.elim
theorem clsm_go {a : Ex} {r : List S → R (List HV)} {σ : L2.St} {H : Hp} {Q : VK} {C : Addr} (hC : G.cls c = some C) (h : tM G g W (mClsM n c fn a r) σ H Q) : tMD G g W (mForce a) σ H fun x H1 => x = .ref C ∧ tMA G g W r σ H1 fun vs H2 => spM G fn n (.ref C :: vs) H2 Q (WE W σ) := by
  obtain ⟨F, ρ, I, k⟩ := h
  refine ⟨F, ρ, I, k.bind.imp fun F1 H1 ρ1 x s1 I1 k1 v rp => ?_⟩
  cases x with
  | cls c' =>
    dsimp only at k1
    split at k1
    · rename_i e
      subst e
      cases rp with
      | cls h0 =>
        rw [hC] at h0
        cases h0
        refine ⟨rfl, F1, ρ1, I1, k1.bind.imp fun F2 H2 ρ2 hs s2 I2 k2 vs rv => ?_⟩
        obtain ⟨F3, ρ3, xs, s3, I3, ra, k3⟩ := Post.forced I2 rv k2.bind
        split at k3
        · rename_i hl
          exact app_sp I3 (.cons (.cls hC) ra) (by rw [List.length_cons, ra.length]; exact hl) k3
        · exact k3.elim
    · exact k1.elim
  | _ => exact k1.elim
theorem me_stat {pl : Sem Bool} {o e : Expr} {es : List Expr} {a : Ex} {r : List S → R (List HV)} (d : StM X.prog X.w X.K X.mg X.base G k c m n fn) (hr : Room j X.A) (hk : k ≤ j) (tk : Takes X W) (ho : ME X G g W o a) (ha : MA X G g W (e :: es) r)
    (hst : starEach (e :: es) X.env = (false, eval e X.env) :: starEach es X.env := by rfl) (hpl : (backTo pos (starEach es X.env)).any (·.1) = false := by rfl)
    (ht : eval (.Call (.Attribute o m apos) (e :: es) [] pos) X.env = (do
      let ov ← eval o X.env
      standAt apos.atName
      let (f, first) ← holding [ov] (getMethod ov m pl)
      callWith pos f first (backTo pos (starEach (e :: es) X.env)) (backToKw pos (keywordEach [] X.env))) := by rfl) :
    ME X G g W (.Call (.Attribute o m apos) (e :: es) [] pos) (mStat n c fn a r) := by
  obtain ⟨C, q, f, fd, ps, mc, rest, hC, cr, h1, h2, hkp, fo, hbd⟩ := d.ex
  refine ⟨fun pins s σ H Q I hh => ?_⟩
  refine PySem.W.methodCall_KW (pl := pl) (thn ((me_force ho).run pins s σ H (fun x H1 => x = .ref C ∧ tMA G g W r σ H1 fun vs H2 => spM G fn n vs H2 Q (WE W σ)) I (stat_go hC hh)) fun u s1 ⟨x, H1, I1, rx, ex, q1⟩ => ?_) ht
  subst ex
  obtain rfl : u = Value.ref C := rx
  refine PySem.W.method_cls I1.kIn cr.ga (PySem.W.cls_bind I1.kIn cr.rd h1 (wpAny_call (PySem.W.sm_get (s := { s1 with toks := s1.toks + 1 }) I1.kIn h2 (PySem.W.handed_on rfl ?_))))
  have I2 := I1.tok (s1.toks + 1)
  exact PySem.W.callWith_K (first := []) (h₀ := X.base) I.ok.mod.kin hkp (thn (ha.run pos pins _ σ H1 _ I2 q1) fun us s2 ⟨vs, H2, I3, r, q2⟩ => ⟨I3.kIn, run_fnS (E := WE W) fo (hr.mono hk) hbd (passAt tk σ) I3 r q2⟩) hst hpl
theorem me_clsm {pl : Sem Bool} {o e : Expr} {es : List Expr} {a : Ex} {r : List S → R (List HV)} (d : CmM X.prog X.w X.K X.mg X.base G k c m n fn) (hr : Room j X.A) (hk : k ≤ j) (tk : Takes X W) (ho : ME X G g W o a) (ha : MA X G g W (e :: es) r)
    (hst : starEach (e :: es) X.env = (false, eval e X.env) :: starEach es X.env := by rfl) (hpl : (backTo pos (starEach es X.env)).any (·.1) = false := by rfl)
    (ht : eval (.Call (.Attribute o m apos) (e :: es) [] pos) X.env = (do
      let ov ← eval o X.env
      standAt apos.atName
      let (f, first) ← holding [ov] (getMethod ov m pl)
      callWith pos f first (backTo pos (starEach (e :: es) X.env)) (backToKw pos (keywordEach [] X.env))) := by rfl) :
    ME X G g W (.Call (.Attribute o m apos) (e :: es) [] pos) (mClsM n c fn a r) := by
  obtain ⟨C, q, f, fd, ps, mc, hC, cr, cm, fo, hbd⟩ := d.ex
  refine ⟨fun pins s σ H Q I hh => ?_⟩
  refine PySem.W.methodCall_KW (pl := pl) (thn ((me_force ho).run pins s σ H (fun x H1 => x = .ref C ∧ tMA G g W r σ H1 fun vs H2 => spM G fn n (.ref C :: vs) H2 Q (WE W σ)) I (clsm_go hC hh)) fun u s1 ⟨x, H1, I1, rx, ex, q1⟩ => ?_) ht
  subst ex
  obtain rfl : u = Value.ref C := rx
  refine ClX.getmethcm_ok I1 cr cm fun s2 I2 => ?_
  refine ClX.callwith_cm I2 (ClX.base_none I1 (Nat.le_refl _)) cm.fi (thn (ha.run pos _ s2 σ H1 _ I2 q1) fun us s3 ⟨vs, H2, I3, rv, q2⟩ => ⟨⟨ClX.pin_at I3, I3.kIn⟩, ?_⟩) hst hpl
  have z : wpAny (model X.prog X.w) X.A (call (.ref s1.heap.objs.size) us) (EP X ((s1.heap.objs.size, PySem.W.methodObj (.ref f) (.ref C)) :: pins) σ Q) X.xe s3 := by
    refine wpAny_call (PySem.W.method_call (ClX.pin_at I3) ?_)
    have hl : (Value.ref C :: us).length = ps.length := by
      rw [← fo.len _ _ _ _ q2, List.length_cons, List.length_cons, rv.length]
    have b := hbd s3 (.ref C :: us) I3.kIn (by rw [List.append_nil]; exact hl)
    rw [List.append_nil] at b
    refine codeAny_mono (fo.run X.A X.stack s3 H2 ⟨.ref C :: us, []⟩ (.ref C :: us) (.ref C :: vs) Q (WE W σ) (hr.mono hk) I3.env0 b (.cons rfl rv) q2) fun q s' hq => ?_
    cases q with
    | error e => exact passAt tk σ _ _ _ _ _ I3 hq
    | ok fl =>
      cases fl with
      | ret u => exact I3.after hq
      | next => exact False.elim hq
      | brk => exact False.elim hq
      | cont => exact False.elim hq
  exact thn z fun _ _ y => ClX.unpinE y
end
end MM
set_option Elab.async false
set_option maxRecDepth 100000
set_option maxHeartbeats 2000000
namespace MM
open PySem PySem.Spec PySem.Calls PyProof.Rows L2
/-! ### C(e, .., k = v, ..): the keywords are the last parameters, in their order -/
section
variable {X : Cx} {CX : CXT} {k n : Nat} {f C : Addr} {fd : FuncData} {ps ks : List Str} {sp : Sp} {x : Str} {p pos : Pos} {e : Expr} {es : List Expr} {kws : List Keyword} {t tk : TA}
abbrev apV : List V → List V → List V := fun us zs => us ++ zs
abbrev apU : List Value → List Value → List Value := fun us zs => us ++ zs
theorem madeK_run {E : XK} {pins : List (Addr × Obj)} {σ : L2.St} {H : Hp} {s : Shared} {Q : VK} {us ws : List Value} {vs zs : List V} (mk : Mk X.K C f) (fo : FnOk X.prog X.w X.K X.mg X.base CX k f fd ps sp) (hr : Room (k + 1) X.A) (hb : KBn X.K fd ps (n + 1) ks apU apV)
    (hx : PassesAt CX X σ E) (I : Inv X pins σ H s) (r : Vals vs us) (rz : Vals zs ws) (l1 : vs.length = n) (l2 : zs.length = ks.length)
    (h : ∀ a dx, H a = none → H dx = none → dx ≠ a → sp (.ref a :: (vs ++ zs)) (upd (upd H dx (.own a)) a (.ins C dx [])) (fun v H2 => v = .non ∧ Q (.ref a) H2) E) :
    wpAny (model X.prog X.w) X.A (call (.ref C) us (ks.zip ws)) (EP X pins σ Q) X.xe s := by
  let b := s.heap.objs.size
  have hq := h (b + 1) b (I.hok.fresh (Nat.le_succ _)) (I.hok.fresh (Nat.le_refl _)) (Nat.ne_of_lt (Nat.lt_succ_self _))
  have I2 := Inv.made (C := C) I
  have n1 : (Value.ref (b + 1) :: us).length = n + 1 := by rw [List.length_cons, ← r.length, l1]
  have rs : Vals (V.ref (b + 1) :: (vs ++ zs)) (Value.ref (b + 1) :: (us ++ ws)) := .cons rfl (r.append rz)
  have run := fo.run _ X.stack _ _ ⟨Value.ref (b + 1) :: us, ks.zip ws⟩ (Value.ref (b + 1) :: (us ++ ws)) _ _ E (hr.make C us (ks.zip ws)) (I2.env0.make C us (ks.zip ws)) (hb.to _ (Value.ref (b + 1) :: us) ws I2.kIn n1 (rz.length.symm.trans l2)) rs hq
  refine wpAny_call (make_map (f := f) I.kIn mk.makes mk.init (beq_iff_eq.mp mk.fn) (codeAny_mono run fun q s' hq' => ?_))
  cases q with
  | error u => exact hx pins _ _ u s' I2 hq'
  | ok fl =>
    cases fl with
    | ret u =>
      obtain ⟨v, H', I3, rv, ev, q3⟩ := I2.after hq'
      subst ev
      exact ⟨rv, ⟨V.ref (b + 1), H', I3, rfl, q3⟩⟩
    | next => exact False.elim hq'
    | brk => exact False.elim hq'
    | cont => exact False.elim hq'
end
def mMakeK (n : Nat) (c : Str) (m : Fn) (n1 n2 : Nat) (r rk : List S → R (List HV)) : Ex := fun ρ => (r ρ).bind fun hs ρ1 => (rk ρ1).bind fun hk ρ2 => (forceHs (hs ++ hk) ρ2).bind fun xs ρ3 => if xs.length + 1 = n ∧ hs.length = n1 ∧ hk.length = n2 then (match m (S.p (.ins c []) :: xs.map S.d) with
  | .rt (.d .non) ρf => (match ρf[0]? with
    | some (S.p y) => .ok (.f y) ρ3
    | _ => .bad)
  | .ex e _ => .ex e ρ3
  | _ => .bad) else .bad
theorem RepHs.app {G : GG} {F : Hp} {σ : L2.St} : ∀ {vs us : List V} {hs ks : List HV}, RepHs G F σ vs hs → RepHs G F σ us ks → RepHs G F σ (vs ++ us) (hs ++ ks)
  | _, _, _, _, .nil, s => s
  | _, _, _, _, .cons h r, s => .cons h (r.app s)
section
variable {X : Cx} {G : GG} {g : Gh} {W : WX} {pos p : Pos}
/-- the keywords' values -/
structure MK (X : Cx) (G : GG) (g : Gh) (W : WX) (kws : List Keyword) (r : List S → R (List HV)) : Prop where
  pk : PK X kws (tMA G g W r)
theorem mk_nil : MK X G g W [] mNil := ⟨⟨fun ps pins s σ H Q I ⟨F, ρ, J, k⟩ => pk_nil.run ps pins s σ H Q I (k F H (.refl _) J [] .nil)⟩⟩
theorem mk_cons {nm : Option Str} {e : Expr} {kpos : Pos} {kws : List Keyword} {f : Ex} {r : List S → R (List HV)} (ha : ME X G g W e f) (hr : MK X G g W kws r) : MK X G g W (⟨nm, e, kpos⟩ :: kws) (mCons f r) := ⟨⟨fun ps pins s σ H Q I ⟨F, ρ, J, k⟩ =>
  (pk_cons (me_hold ha) hr.pk).run ps pins s σ H Q I ⟨F, ρ, J, k.bind.imp fun F1 H1 ρ1 h s1 I1 k1 v rv => ⟨F1, ρ1, I1, k1.bind.imp fun F2 H2 ρ2 hs s2 I2 k2 vs rvs => k2 F2 H2 (.refl _) I2 _ (.cons (rv.mono s2) rvs)⟩⟩⟩⟩
theorem me_makeK {x : Str} {e : Expr} {es : List Expr} {kws : List Keyword} {m : Fn} {r rk : List S → R (List HV)} {k n n1 : Nat} {fa C : Addr} {fd : FuncData} {ps ks : List Str} (hC : G.cls x = some C) (mk : Mk X.K C fa) (fo : FnOk X.prog X.w X.K X.mg X.base (L2.CX X.prog X.w) k fa fd ps (spM G m n)) (hr : Room (k + 1) X.A) (hg : Gl X x) (hm : X.mg x = some (.ref C))
    (hb : KBn X.K fd ps (n1 + 1) ks apU apV) (tk : Takes X W) (ha : MA X G g W (e :: es) r) (hkw : MK X G g W kws rk)
    (hall : (backToKw pos (keywordEach kws X.env)).all (·.1.isSome) = true := by rfl) (hks : (backToKw pos (keywordEach kws X.env)).filterMap (·.1) = ks := by rfl) (hdb : (x == ("__debug__" : Str)) = false := by decide)
    (he : starEach (e :: es) X.env = (false, eval e X.env) :: starEach es X.env := by rfl) (hpl : ((backTo pos (starEach (e :: es) X.env)).any (·.1) || (backToKw pos (keywordEach kws X.env)).any (·.1.isNone)) = false := by rfl) :
    ME X G g W (.Call (.Name x p) (e :: es) kws pos) (mMakeK n x m n1 ks.length r rk) := by
  refine ⟨fun pins s σ H Q I hh => ?_⟩
  have key : tMA G g W r σ H fun vs H1 => tMA G g W rk σ H1 fun zs H2 => vs.length = n1 ∧ zs.length = ks.length ∧ ∀ a dx, H2 a = none → H2 dx = none → dx ≠ a → spM G m n (.ref a :: (vs ++ zs)) (upd (upd H2 dx (.own a)) a (.ins C dx [])) (fun v H3 => v = .non ∧ Q (.ref a) H3) (WE W σ) := by
    obtain ⟨F, ρ, J, hh⟩ := hh
    refine ⟨F, ρ, J, hh.bind.imp fun F1 H1 ρ1 hs s1 I1 k1 vs rv => ⟨F1, ρ1, I1, k1.bind.imp fun F2 H2 ρ2 hk s2 I2 k2 zs rz => ?_⟩⟩
    obtain ⟨F3, ρ3, xs, s3, I3, ra, k3⟩ := Post.forced I2 ((rv.mono s2).app rz) k2.bind
    split at k3
    · rename_i hn
      exact ⟨rv.len.trans hn.2.1, rz.len.trans hn.2.2, made_core hC I3 ra hn.1 k3⟩
    · exact k3.elim
  refine wpAny_Call_Name_kw (ld_glob I hg hm ?_ hdb)
  refine PySem.W.callWith_KW (h₀ := X.base) I.ok.mod.kin mk.kp hall (thn (ha.run pos pins s σ H _ I key) fun us s1 ⟨vs, H1, I1, r, q⟩ => ?_) hpl he
  refine thn (hkw.pk.run pos pins s1 σ H1 _ I1 q) fun ws s2 ⟨zs, H2, I2, rz, l1, l2, q2⟩ => ⟨I2.kIn, ?_⟩
  rw [hks]
  exact madeK_run mk fo hr hb (passAt tk σ) I2 r rz l1 l2 q2
end
end MM
set_option Elab.async false
set_option maxRecDepth 100000
set_option maxHeartbeats 2000000
namespace MM
open PySem PySem.Spec PySem.Calls PyProof.Rows L2
/-! ### x[::-1] of a list, a tuple, a text -/
section
variable {prog : Program} {w : World} {A : Around} {E : Value → Shared → Prop} {s : Shared}
theorem back_adjust (n : Nat) : Builtin.Slice.sliceAdjust none none (-1) (n : Int) = ((n : Int) - 1, -1) := by
  unfold Builtin.Slice.sliceAdjust
  simp
theorem back_places (n : Nat) : Builtin.Slice.slicePlaces ((n : Int) - 1) (-1) (-1) = n := by
  unfold Builtin.Slice.slicePlaces
  have h1 : ¬ ((-1 : Int) > 0) := by omega
  simp only [h1, if_false]
  by_cases h : (n : Int) - 1 > -1
  · rw [if_pos h]
    have e : ((n : Int) - 1 - -1 - 1) / (- -1) = (n : Int) - 1 := by
      rw [show (- -1 : Int) = 1 by decide, Int.ediv_one]
      omega
    rw [e]
    omega
  · rw [if_neg h]
    omega
theorem back_applied {sl : Addr} {vs : Value} {n : Nat} {Q : Int × Int × Nat → Shared → Prop} (hs : s.heap.IsSliceOf sl .none .none vs) (ps : IsPart vs (some (-1))) (h : Q ((n : Int) - 1, -1, n) s) : wpAny (model prog w) A (Builtin.Slice.sliceApplied (.ref sl) (pure (n : Int))) Q E s := by
  obtain ⟨os, hos, hcs, hds⟩ := id hs
  unfold Builtin.Slice.sliceApplied Builtin.Slice.sliceFields
  refine wpAny_bind (wpAny_bind (wpAny_field hos hds (x := Value.none) rfl (wpAny_bind (wpAny_field hos hds (x := Value.none) rfl (wpAny_bind (wpAny_field hos hds (x := vs) rfl (wpAny_pure ?_)))))))
  refine wpAny_bind (HT.slicePart_ ps ?_)
  show wpAny _ _ (if ((-1 : Int) == 0) = true then _ else _) _ _ s
  rw [if_neg (by decide)]
  refine wpAny_bind (HT.slicePart_ .none (wpAny_bind (HT.slicePart_ .none (wpAny_bind (wpAny_pure ?_)))))
  show wpAny _ _ (match Builtin.Slice.sliceAdjust none none (-1) (n : Int) with | (lo, hi) => pure (lo, (-1 : Int), Builtin.Slice.slicePlaces lo hi (-1))) _ _ s
  rw [back_adjust]
  show wpAny _ _ (pure ((n : Int) - 1, (-1 : Int), Builtin.Slice.slicePlaces ((n : Int) - 1) (-1) (-1))) _ _ s
  rw [back_places]
  exact wpAny_pure h
theorem fm_some {α β : Type} {f : α → Option β} {g : α → β} : ∀ {l : List α}, (∀ x ∈ l, f x = some (g x)) → l.filterMap f = l.map g
  | [], _ => rfl
  | a :: l, h => by
    rw [List.filterMap_cons_some (h a List.mem_cons_self), fm_some fun x hx => h x (List.mem_cons_of_mem _ hx)]
    rfl
theorem back_pick (xs : Array Value) : ((List.range xs.size).filterMap fun (k : Nat) => xs[(((xs.size : Int) - 1) + (k : Int) * -1).toNat]?).toArray = xs.toList.reverse.toArray := by
  congr 1
  have e : ∀ k ∈ List.range xs.size, (xs[(((xs.size : Int) - 1) + (k : Int) * -1).toNat]?) = some (xs.toList.reverse.getD k .none) := fun k hk => by
    have hk := List.mem_range.mp hk
    have e1 : (((xs.size : Int) - 1) + (k : Int) * -1).toNat = xs.size - 1 - k := by omega
    rw [e1, Array.getElem?_eq_getElem (by omega), List.getD_eq_getElem?_getD, List.getElem?_reverse (by simpa using hk)]
    simp [Array.getElem?_eq_getElem (show xs.size - 1 - k < xs.size by omega)]
  rw [fm_some e]
  apply List.ext_getElem
  · simp
  · intro i h1 h2
    simp at h1
    simp [List.getD_eq_getElem?_getD, h1]
theorem getItem_tuple_back {t sl : Addr} {items : Array Value} {vs : Value} {Q : Value → Shared → Prop} (ht : IsTup s.heap t items) (hs : s.heap.IsSliceOf sl .none .none vs) (ps : IsPart vs (some (-1)))
    (h : Q (.ref s.heap.objs.size) { s with heap := s.heap.push { cls := .type "tuple", data := .seq items.toList.reverse.toArray } }) (hsz : items.size ≤ sizeLine) : wpAny (model prog w) A (getItem (.ref t) (.ref sl)) Q E s := by
  have htake : sizeOk (.seq items.toList.reverse.toArray) := by
    show items.toList.reverse.toArray.size ≤ sizeLine
    rw [List.size_toArray, List.length_reverse, Array.length_toList]
    exact hsz
  obtain ⟨os, hos, hcs, hds⟩ := id hs
  have hTs : s.TypeIs (.ref sl) "slice" := ⟨os, hos, hcs⟩
  unfold getItem
  refine wpAny_holding ?_
  refine wpAny_bind (wpAny_sequenceKey ht.typeIs (by decide) ?_)
  refine wpAny_bind (wpAny_callSpecial?_slot (name := Str.ofString "__getitem__") ht.typeIs PyProof.Rows.slot_tuple_getitem (wpAny_call_entry PyProof.Rows.slot_tuple_getitem ht.typeIs entry_tuple_getitem ?_ (args_tuple_getitem _ _)))
  show wpAny _ _ (Builtin.Tuple.tupleItemsOf (.ref t) >>= _) _ _ s
  refine wpAny_bind (tupleItemsOf_ ht ?_)
  refine wpAny_bind (wpAny_typeOf hTs ?_)
  rw [if_pos (by decide)]
  refine wpAny_bind (back_applied hs ps ?_)
  have hno : ¬ ((((items.size : Int) - 1) == 0 && (-1 : Int) == 1 && items.size == items.size) = true) := by
    rw [show ((-1 : Int) == 1) = false from rfl, Bool.and_false, Bool.false_and]
    exact Bool.false_ne_true
  show wpAny _ _ (if (((items.size : Int) - 1) == 0 && (-1 : Int) == 1 && items.size == items.size) = true then _ else _) _ _ s
  rw [if_neg hno, back_pick]
  first
    | exact wpAny_bind (m := Builtin.Tuple.tupleExact _) (wpAny_newObj_type (wpAny_pure ⟨_, rfl, wpAny_pure h⟩) htake)
    | exact wpAny_bind (m := Builtin.Tuple.tupleExact _) (wpAny_newObj_type (wpAny_bind (wpAny_pure (wpAny_pure ⟨_, rfl, wpAny_pure h⟩))) htake)
    | exact wpAny_bind (wpAny_bind (m := Builtin.Tuple.tupleExact _) (wpAny_newObj_type (wpAny_pure (wpAny_pure ⟨_, rfl, wpAny_pure h⟩)) htake))
    | exact wpAny_bind (wpAny_bind (m := Builtin.Tuple.tupleExact _) (wpAny_newObj_type (wpAny_pure ⟨_, rfl, wpAny_pure h⟩) htake))
/-- a text's places, from behind -/
theorem back_ix (n : Nat) : Builtin.Str.strSliceIndices none none (-1) n = (List.range n).reverse := by
  have e : Builtin.Str.strSliceIndices none none (-1) n = sliceRange ((n : Int) - 1) (-1) (-1) := by
    unfold Builtin.Str.strSliceIndices
    simp
  rw [e, PySem.W.krv_sliceRange, PySem.W.krv_range]
theorem back_cps (z : Str) : ((List.range z.length).reverse.filterMap (z.cps[·]?)) = z.cps.toList.reverse := by
  rw [List.filterMap_reverse]
  congr 1
  have e : ∀ k ∈ List.range z.length, z.cps[k]? = some (z.cps.toList.getD k 0) := fun k hk => by
    have hk : k < z.cps.size := List.mem_range.mp hk
    rw [Array.getElem?_eq_getElem hk, List.getD_eq_getElem?_getD]
    simp [hk]
  rw [fm_some e]
  apply List.ext_getElem
  · simp
    rfl
  · intro i h1 h2
    have h3 : i < z.cps.size := by simpa using h2
    simp [List.getD_eq_getElem?_getD, h3]
end
section
variable {X : Cx}
def tBack (K : PySem.W.Frag) (te : TE) : TE := fun σ H Q => te σ H fun x H1 => (∃ a xs, x = .ref a ∧ SqL K H1 a xs ∧ ∀ p, H1 p = none → Q (.ref p) (upd H1 p (.lst xs.reverse))) ∨ (∃ a xs, x = .ref a ∧ SqT K H1 a xs ∧ ∀ p, H1 p = none → Q (.ref p) (upd H1 p (.tup xs.reverse))) ∨
  ∃ z, x = .str z ∧ z.length ≤ sizeLine ∧ ∀ y : Str, y.cps.toList = z.cps.toList.reverse → Q (.str y) H1
theorem pe_back {e : Expr} {te : TE} {k : Nat} {p1 p2 p3 pos : Pos} (he : PE X e te) : PE X (.Subscript e (.Slice none none (some (.UnaryOp .USub (.Constant (.int 1) k p1) p2)) p3) pos) (tBack X.K te) := by
  refine ⟨fun pins s σ H Q I h => ?_⟩
  refine Subscript_ (thn (he.run pins s σ H _ I h) fun v s1 ⟨x, H1, I1, r1, q1⟩ => ?_)
  have hst : PO X (some (.UnaryOp .USub (.Constant (.int 1) k p1) p2)) (tPart (tUn (rU fun i => .int (-i)) (tC (.int 1)))) := po_some (pe_un un_neg pe_int)
  refine wpAny_Slice (thn (po_none.run pins s1 σ H1 (fun o H2 => o = none ∧ H2 = H1) I1 ⟨rfl, rfl⟩) fun vl s2 ⟨l, H2, I2, pl, el, e2⟩ => ?_)
  subst el e2
  refine thn (po_none.run pins s2 σ H2 (fun o H3 => o = none ∧ H3 = H2) I2 ⟨rfl, rfl⟩) fun vu s3 ⟨u, H3, I3, pu, eu, e3⟩ => ?_
  subst eu e3
  refine thn (hst.run pins s3 σ H3 (fun o H4 => o = some (-1) ∧ H4 = H3) I3 ⟨1, rfl, -1, rfl, rfl, rfl⟩) fun vs s4 ⟨o, H4, I4, ps, eo, e4⟩ => ?_
  subst eo e4
  have I5 : Inv X pins σ H4 { s4 with heap := s4.heap.push { cls := .type "slice", data := .fields #[vl, vu, vs] } } := I4.kept (t' := s4.toks) fun b ob q => Heap.get?_push_of_some _ q
  have sl5 : ({ s4 with heap := s4.heap.push { cls := .type "slice", data := .fields #[vl, vu, vs] } } : Shared).heap.IsSliceOf s4.heap.objs.size vl vu vs := Heap.IsSliceOf.new _ vl vu vs
  rcases q1 with ⟨a, xs, ex, hx, q⟩ | ⟨a, xs, ex, hx, q⟩ | ⟨z, ex, hz, q⟩
  · subst ex
    cases r1
    obtain ⟨its, r, ht, hz⟩ := I5.list hx
    have hlen := r.length
    show wpAny (model X.prog X.w) X.A (subscriptTail e (.Slice none none (some (.UnaryOp .USub (.Constant (.int 1) k p1) p2)) p3) (.ref a) (.ref s4.heap.objs.size)) (EP X pins σ Q) X.xe { s4 with heap := s4.heap.push { cls := .type "slice", data := .fields #[vl, vu, vs] } }
    refine tail_any (ops := [.ref a, .ref s4.heap.objs.size]) ht.isList.typeIs (PySem.slot_list_getitem.lookup) ?_ (by with_unfolding_all rfl)
    refine wpAny_getItem_list_slice ht.isList sl5 pl pu ps (by decide) ?_ (by rw [List.size_toArray]; omega)
    rw [PySem.W.krv_pick]
    exact ⟨.ref _, _, I5.laid (t' := s4.toks) (o := .lst xs.reverse) (fun b ob q => Heap.get?_push_of_some _ q) (Nat.le_refl _) ⟨by rw [List.length_reverse]; exact hz, _, 0, r.reverse, Heap.get?_push_size _ rfl⟩, rfl, q _ (I5.hok.fresh (Nat.le_refl _))⟩
  · subst ex
    cases r1
    cases pl
    cases pu
    obtain ⟨its, r, ht, hz⟩ := I5.tuple hx
    have hlen := r.length
    show wpAny (model X.prog X.w) X.A (subscriptTail e (.Slice none none (some (.UnaryOp .USub (.Constant (.int 1) k p1) p2)) p3) (.ref a) (.ref s4.heap.objs.size)) (EP X pins σ Q) X.xe { s4 with heap := s4.heap.push { cls := .type "slice", data := .fields #[.none, .none, vs] } }
    refine tail_any (ops := [.ref a, .ref s4.heap.objs.size]) ht.typeIs (PyProof.Rows.slot_tuple_getitem.lookup) ?_ (by with_unfolding_all rfl)
    refine getItem_tuple_back ht sl5 ps ?_ (by rw [List.size_toArray]; omega)
    exact ⟨.ref _, _, I5.laid (t' := s4.toks) (o := .tup xs.reverse) (fun b ob q => Heap.get?_push_of_some _ q) (Nat.le_refl _) ⟨by rw [List.length_reverse]; exact hz, _, r.reverse, IsTup.new _ _⟩, rfl, q _ (I5.hok.fresh (Nat.le_refl _))⟩
  · subst ex
    obtain ⟨t, rfl⟩ := r1
    obtain ⟨os, hos, hcs, hds⟩ := sl5
    cases pl
    cases pu
    cases ps with
    | int _ tk =>
      show wpAny (model X.prog X.w) X.A (subscriptTail e (.Slice none none (some (.UnaryOp .USub (.Constant (.int 1) k p1) p2)) p3) (.str z t) (.ref s4.heap.objs.size)) (EP X pins σ Q) X.xe { s4 with heap := s4.heap.push { cls := .type "slice", data := .fields #[.none, .none, .int (-1) tk] } }
      refine tail_any (T := "str") (ops := [.str z t, .ref s4.heap.objs.size]) (typeIs_str _ _ _) (PySem.F.slot_str_getitem.lookup) ?_ (by with_unfolding_all rfl)
      refine wpAny_getItem_str_slice (l := none) (u := none) (st := some (-1, tk)) ⟨os, hos, hcs, hds⟩ rfl ?_
      have em : sliceMade z t none none (some (-1, tk)) = Made.str ⟨z.cps.toList.reverse.toArray⟩ := by
        unfold sliceMade slicePicked
        show (if ((-1 : Int) == 1 && _) = true then _ else Made.str ⟨((Builtin.Str.strSliceIndices none none (-1) z.length).filterMap (z.cps[·]?)).toArray⟩) = _
        rw [show ((-1 : Int) == 1) = false from rfl, Bool.false_and, if_neg Bool.false_ne_true, back_ix, back_cps]
      rw [em]
      exact ⟨by show z.cps.toList.reverse.toArray.size ≤ sizeLine; rw [List.size_toArray, List.length_reverse]; exact hz, .str ⟨z.cps.toList.reverse.toArray⟩, H4, I5.tok _, ⟨_, rfl⟩, q _ rfl⟩
end
def revD : D → Option RV
  | .lst l => some (.f (.lst l.reverse))
  | .tup l => some (.d (.tup l.reverse))
  | .str l => if l.length ≤ sizeLine then some (.d (.str l.reverse)) else none
  | _ => none
section
variable {X : Cx} {G : GG} {g : Gh} {W : WX} {pos : Pos}
theorem me_back {e : Expr} {f : Ex} {k : Nat} {p1 p2 p3 : Pos} (hK : X.K = G.K) (he : ME X G g W e f) : ME X G g W (.Subscript e (.Slice none none (some (.UnaryOp .USub (.Constant (.int 1) k p1) p2)) p3) pos) (mUn revD f) :=
  pe_imp (pe_back (me_hold he)) fun σ H Q hh => by
    obtain ⟨F, ρ, I, k⟩ := tM_un hh
    refine ⟨F, ρ, I, k.imp fun F1 H1 ρ1 h s1 I1 kk v r => ?_⟩
    obtain ⟨F2, x, rv, sF, rt, ee, kk⟩ := kk v r
    cases x with
    | lst l =>
      cases ee
      obtain ⟨a, xs, rfl, h1, ra⟩ := T_lst sF rt
      exact .inl ⟨a, xs, rfl, .of h1, new_f sF ra.reverse kk⟩
    | tup l =>
      cases ee
      obtain ⟨a, xs, rfl, h1, ra⟩ := T_tup sF rt
      exact .inr (.inl ⟨a, xs, rfl, by rw [hK]; exact h1, new_t sF ra.reverse kk⟩)
    | str l =>
      unfold revD at ee
      dsimp only at ee
      split at ee
      · rename_i hz
        cases ee
        obtain ⟨z, rfl, e2⟩ := T_str rt
        refine .inr (.inr ⟨z, rfl, by rw [str_len e2]; exact hz, fun y ey => kk F2 H1 _ (.refl sF) (.str ?_)⟩)
        rw [ey, e2]
      · cases ee
    | _ => cases ee
/-! ### range(i, j, -1) -/
def downD (hi : Int) (n : Nat) : List D := (List.range n).map fun i => .int (hi - (i : Nat))
def rng3 : List D → Option (List D)
  | [.int i, .int j, .int c] => if c = -1 ∧ rngOk i j = true then some (downD i (i - j).toNat) else none
  | _ => none
theorem itd_down {F H : Hp} {i : Int} {n : Nat} : ItD G (Itc i (-1) n) (downD i n) F H where
  go := fun F1 H1 k s1 s2 h => by
    have : k < n := by simpa [downD] using h
    exact this
  yld := fun F1 H1 k v H2 s1 s2 y h => by
    have hk : k < n := by simpa [downD] using h
    obtain ⟨rfl, rfl⟩ := y
    refine ⟨F1, .int (i + (k : Nat) * -1), .refl s2, ?_, .int _⟩
    unfold downD
    rw [List.getElem?_map, List.getElem?_range hk]
    show some (D.int _) = some (D.int _)
    congr 2
    omega
  stop := fun F1 H1 k s1 s2 h => by
    have : n ≤ k := by simpa [downD] using h
    exact this
theorem mi_range3 {tg a b c : Expr} {r : List S → R (List HV)} {p : Pos} (hg : Gl X "range") (hm : X.mg "range" = none) (ha : MA X G g W [a, b, c] r)
    (hs : starEach [a, b, c] X.env = (false, eval a X.env) :: starEach [b, c] X.env := by rfl) (hpl : (backTo pos (starEach [b, c] X.env)).any (·.1) = false := by rfl) :
    MI X G g W tg (.Call (.Name "range" p) [a, b, c] [] pos) (mSrc rng3 r) := pi_imp (pi_range3 hg hm ha hs hpl) fun σ H Rr hh => by
  obtain ⟨F, ρ, I, k⟩ := tMI_src hh
  refine ⟨F, ρ, I, k.imp fun F1 H1 ρ1 hs s1 I1 kk vs rv => ?_⟩
  obtain ⟨F2, xs, l, s2, rt, e, k2⟩ := kk vs rv
  unfold rng3 at e
  split at e
  · cases rt with
    | cons r1 rt =>
      obtain ⟨v, u, rfl, r2, r3⟩ := Ra2 rt
      cases rep_int r1
      cases rep_int r2
      cases rep_int r3
      split at e
      · rename_i hok
        cases e
        obtain ⟨rfl, hok⟩ := hok
        obtain ⟨h1, h2, h3, h4⟩ := rngOk_of hok
        exact ⟨_, _, _, _, rfl, RgC.neg h1 h2 h3 h4, k2 _ itd_down⟩
      · cases e
  · cases e
end
end MM
set_option Elab.async false
set_option maxRecDepth 100000
set_option maxHeartbeats 2000000
namespace MM
open PySem PySem.Spec PyProof.Rows L2
/-! ### the head's facts: any Bool of the written part, defs at any address, tables of code -/
abbrev AlM : Type := Bool × List He.FnW
def addrsM (g : Addr → Option Obj) (n : Nat) : List Addr := He5.asA g n
def lookM (ex : PySem.W.Frag → Bool) (ds : List He5.DefA) (tf : List He.Defn) (g : Addr → Option Obj) (K : PySem.W.Frag) : AlM :=
  (ex K && ((ds.all fun d => d.ok K) && He.tabsB g tf K), ds.map fun d => He5.fnA K (d.at_ K))
structure SaysM (ex : PySem.W.Frag → Bool) (ds : List He5.DefA) (tf : List He.Defn) (h : Heap) (K : PySem.W.Frag) : Prop where
  b : ex K = true
  d : ∀ x ∈ ds, x.ok K = true ∧ He5.fnA K (x.at_ K) = x.val
  t : ∀ p ∈ tf, PySem.W.codeHdIn K (He.cT K p).1 (He.cT K p).2 = true ∧ K.lookup (He.cT K p).2 = none ∧ h.get? (He.cT K p).2 = some { cls := .none, data := .fields #[] }
def seeM (n : Nat) (ex : PySem.W.Frag → Bool) (ds : List He5.DefA) (tf : List He.Defn) (g : Addr → Option Obj) : AlM := lookM ex ds tf g (He.frT g (addrsM g n))
def wantM (ds : List He5.DefA) : AlM := (true, ds.map He5.DefA.val)
theorem mapEq {α β : Type} {f g : α → β} : ∀ {l : List α}, l.map f = l.map g → ∀ x ∈ l, f x = g x
  | [], _, _, h => by cases h
  | a :: l, e, x, h => by
    rw [List.map_cons, List.map_cons] at e
    injection e with e1 e2
    rcases List.mem_cons.mp h with rfl | h
    · exact e1
    · exact mapEq e2 x h
theorem saysM_of {n : Nat} {ex : PySem.W.Frag → Bool} {ds : List He5.DefA} {tf : List He.Defn} {h : Heap} (e : seeM n ex ds tf h.get? = wantM ds) : SaysM ex ds tf h (He.frT h.get? (addrsM h.get? n)) := by
  have e1 : (ex (He.frT h.get? (addrsM h.get? n)) && ((ds.all fun d => d.ok (He.frT h.get? (addrsM h.get? n))) && He.tabsB h.get? tf (He.frT h.get? (addrsM h.get? n)))) = true := congrArg Prod.fst e
  have e2 : ds.map (fun d => He5.fnA (He.frT h.get? (addrsM h.get? n)) (d.at_ (He.frT h.get? (addrsM h.get? n)))) = ds.map He5.DefA.val := congrArg Prod.snd e
  obtain ⟨k1, k2⟩ := Bool.and_eq_true_iff.mp e1
  obtain ⟨k3, k4⟩ := Bool.and_eq_true_iff.mp k2
  refine ⟨k1, fun x hx => ⟨List.all_eq_true.mp k3 x hx, mapEq e2 x hx⟩, fun p hp => ?_⟩
  obtain ⟨z1, z2⟩ := Bool.and_eq_true_iff.mp (List.all_eq_true.mp k4 p hp)
  cases q : h.get? (He.cT (He.frT h.get? (addrsM h.get? n)) p).2 with
  | none => rw [q] at z2; cases z2
  | some o =>
    rw [q] at z2
    exact ⟨z1, He.frT_none q z2, by rw [He.emptyTab_eq z2]⟩
def hookM (n : Nat) (ex : PySem.W.Frag → Bool) (ds : List He5.DefA) (tf : List He.Defn) : PySem.W.Hook where
  α := AlM
  obs := fun s => seeM n ex ds tf s.heap.get?
  val := fun _ => wantM ds
  says := fun _ h => ∃ K : PySem.W.Frag, K.In h ∧ SaysM ex ds tf h K
  of := fun _ _ e => ⟨_, He.frT_in, saysM_of e⟩
  keeps := fun _ _ _ ⟨K, hK, c⟩ k => ⟨K, PySem.W.Frag.In.keeps hK k, c.b, c.d, fun p hp => ⟨(c.t p hp).1, (c.t p hp).2.1, k _ _ (c.t p hp).2.2⟩⟩
theorem seeM_eq {n : Nat} {ex : PySem.W.Frag → Bool} {ds : List He5.DefA} {tf : List He.Defn} {g : Addr → Option Obj} {s : Shared} (h : ∀ a, g a = s.heap.get? a) : seeM n ex ds tf g = (hookM n ex ds tf).obs s := by
  have e : g = s.heap.get? := funext h
  rw [e] <;> rfl
theorem SaysM.def_ {ex : PySem.W.Frag → Bool} {ds : List He5.DefA} {tf : List He.Defn} {h : Heap} {K : PySem.W.Frag} (c : SaysM ex ds tf h K) (i : Nat) {d : He5.DefA} (e : ds[i]? = some d := by rfl) : ∃ fd, FunD K d.name d.qual d.params d.body d.scope (d.dvs K) (d.kws K) (d.at_ K) fd := by
  obtain ⟨h1, h2⟩ := c.d d (List.mem_of_getElem? e)
  exact He5.DefA.funD h2 h1
/-! ### own facts: a list of Bools -/
def allF (l : List (PySem.W.Frag → Bool)) : PySem.W.Frag → Bool := fun K => l.all fun f => f K
theorem allF_at {l : List (PySem.W.Frag → Bool)} {K : PySem.W.Frag} (h : allF l K = true) (i : Nat) {f : PySem.W.Frag → Bool} (e : l[i]? = some f := by rfl) : f K = true :=
  List.all_eq_true.mp h f (List.mem_of_getElem? e)
/-! ### the end -/
/-- the law's promise where tables may stand -/
theorem walk_ofM {l : PySem.W.OpenLaw} {n k : Nat} {q : Program} {loose : List Str} {XP : (Str → Option Value) → Heap → Prop} {YP : World → Heap → Prop} {d : DefRec} {CX : CXT} {x : Str}
    (hn : l.most = some n) (hn2 : n ≤ sizeLine) (hdf : d.params.defaults = []) (hr : Room k callerA)
    (F : ∀ (w : World) (mg : Str → Option Value) (fa : Addr) (h : Heap), YP w h → h.Ns mainGlobals mg → mg d.name = some (.ref fa) → ∃ K : PySem.W.Frag, K.In h ∧ LamX.LawAtS l w K CX k n x mg fa h)
    (hCX : ∀ (H : Hp) (s : Shared) (e : Value) (s' : Shared), CX [] H s (fun _ _ _ => False) e s' → False) :
    PySem.W.WalkO q loose XP YP l.row.toRowW d [] (fun f vs => PySem.call f vs) := by
  refine Att.attach_callB hn hdf fun w s₀ s₁ mg mb fa o pm cd doc a vs ns G Y ho hd hcd hmg hobj hints hlen hbits hg => ?_
  obtain ⟨K, KX, fd, cs, sp, hT, nT, C, hb, hsp, hF⟩ := F w mg fa _ Y G.T.g hmg
  exact LamX.law_callTs KX G.T.g G.T.b G.T.builtins G.T.nolimit hg hT nT C G.T.bmain hobj hints (Nat.le_trans hlen hn2) hr hF hb (fun H hH hS => hsp H a ns hlen hbits hH hS) fun H e s' => hCX H s₁ e s'
end MM
set_option Elab.async false
set_option maxRecDepth 100000
set_option maxHeartbeats 2000000
namespace MM
open PySem PySem.Spec PySem.Calls PyProof.Rows L2
/-! ### f-strings -/
section
variable {X : Cx} {G : GG} {g : Gh} {W : WX} {pos p : Pos}
def mFmt (f : Ex) : List S → R (List Nat) := fun ρ => (mHold f ρ).bind fun h ρ1 => match peekH ρ1 h with
  | some (.str l) => if l.length ≤ sizeLine then .ok l ρ1 else .bad
  | some (.int i) => if i.natAbs.log2 < 1920 then .ok (strI i) ρ1 else .bad
  | _ => .bad
def mTx (l : List Nat) : List S → R (List Nat) := fun ρ => .ok l ρ
def tMF (G : GG) (g : Gh) (W : WX) (f : List S → R (List Nat)) : TE := fun σ H Q => ∃ F ρ, Good G g F ρ σ H ∧ Post G g W F σ (f ρ) fun F' H' _ l => ∀ y : Str, y.cps.toList = l → Q (.str y) H'
abbrev MF (X : Cx) (G : GG) (g : Gh) (W : WX) (e : Expr) (f : List S → R (List Nat)) : Prop := PE X e (tMF G g W f)
theorem mf_fmt {e : Expr} {f : Ex} (h : ME X G g W e f) : MF X G g W (.FormattedValue e (-1) none pos) (mFmt f) := pe_imp (pe_fmt (me_hold h)) fun σ H Q ⟨F, ρ, I, k⟩ => ⟨F, ρ, I, k.bind.imp fun F1 H1 ρ1 h s1 I1 k1 v r => by
  cases q : peekH ρ1 h with
  | none => rw [q] at k1; exact k1.elim
  | some x =>
    rw [q] at k1
    have rt := peekH_rep I1 r q
    cases x with
    | str l =>
      dsimp only at k1
      split at k1
      · rename_i hz
        obtain ⟨z, rfl, e2⟩ := T_str rt
        exact .inl ⟨z, rfl, by rw [str_len e2]; exact hz, k1 F1 H1 (.refl _) I1 z e2⟩
      · exact k1.elim
    | int i =>
      dsimp only at k1
      split at k1
      · rename_i hz
        rw [T_int rt]
        exact .inr ⟨i, rfl, hz, k1 F1 H1 (.refl _) I1 _ rfl⟩
      · exact k1.elim
    | _ => exact k1.elim⟩
theorem mf_tx {x : Str} {j} {l : List Nat} (h : x.cps.toList = l) : MF X G g W (.Constant (.str x) j pos) (mTx l) := pe_imp pe_str fun σ H Q ⟨F, ρ, I, k⟩ => k F H (.refl _) I x h
inductive MJ (X : Cx) (G : GG) (g : Gh) (W : WX) : List Expr → List (List S → R (List Nat)) → Prop
  | nil : MJ X G g W [] []
  | cons {e : Expr} {f : List S → R (List Nat)} {es : List Expr} {fs : List (List S → R (List Nat))} (h : MF X G g W e f) (r : MJ X G g W es fs) : MJ X G g W (e :: es) (f :: fs)
def mJs : List (List S → R (List Nat)) → List Nat → List S → R (List Nat)
  | [], acc, ρ => .ok acc ρ
  | f :: fs, acc, ρ => (f ρ).bind fun l ρ1 => if (acc ++ l).length ≤ sizeLine then mJs fs (acc ++ l) ρ1 else .bad
def mFStr (fs : List (List S → R (List Nat))) : Ex := fun ρ => (mJs fs [] ρ).bind fun l ρ1 => .ok (.d (.str l)) ρ1
theorem MJ.pj {es : List Expr} {fs : List (List S → R (List Nat))} (h : MJ X G g W es fs) : PJ X es (fs.map (tMF G g W)) := by
  induction h with
  | nil => exact .nil
  | cons h r ih => exact .cons h ih
theorem js_go {σ : L2.St} : ∀ {fs : List (List S → R (List Nat))} {acc : List Nat} {a : Str} {F H : Hp} {ρ : List S} {Q : Str → Hp → Prop}, a.cps.toList = acc → Good G g F ρ σ H → (Post G g W F σ (mJs fs acc ρ) fun F' H' _ l => ∀ y : Str, y.cps.toList = l → Q y H') → tJs (fs.map (tMF G g W)) a σ H Q
  | [], acc, a, F, H, ρ, Q, ea, I, k => k F H (.refl _) I a ea
  | f :: fs, acc, a, F, H, ρ, Q, ea, I, k => by
    refine ⟨F, ρ, I, k.bind.imp fun F1 H1 ρ1 l s1 I1 k1 y ey => ?_⟩
    split at k1
    · rename_i hz
      have e2 := str_app ea ey
      exact ⟨y, rfl, by rw [str_len e2]; exact hz, js_go e2 I1 k1⟩
    · exact k1.elim
theorem me_fstr {v1 v2 : Expr} {rest : List Expr} {fs : List (List S → R (List Nat))} (h : MJ X G g W (v1 :: v2 :: rest) fs) : ME X G g W (.JoinedStr (v1 :: v2 :: rest) pos) (mFStr fs) :=
  pe_imp (pe_joined h.pj) fun σ H Q ⟨F, ρ, I, k⟩ => js_go (a := Str.empty) (acc := []) rfl I (k.bind.imp fun F1 H1 ρ1 l s1 I1 k1 y ey => k1 F1 H1 (.refl _) I1 (.str y) (.str ey))
end
theorem kwc_nil {α : Type} {D : Addr} {t : Sem α} {r : α} (h : t = pure r) : KwChain D [] t r := h
/-! ### construction, packed -/
structure MkM (P : Program) (w : World) (K : PySem.W.Frag) (mg : Str → Option Value) (base : Heap) (G : GG) (k : Nat) (c : Str) (n : Nat) (m : Fn) (dv : List D) : Prop where
  ex : ∃ (C fa : Addr) (fd : FuncData) (ps : List Str) (ds : List Value) (dvs : List V), G.cls c = some C ∧ mg c = some (.ref C) ∧ Mk K C fa ∧ FnOk P w K mg base (L2.CX P w) k fa fd ps (spM G m n) ∧ Binds K fd ps ds ∧ Vals dvs ds ∧ ∀ F, RepA G F dvs dv
structure MkK (P : Program) (w : World) (K : PySem.W.Frag) (mg : Str → Option Value) (base : Heap) (G : GG) (k : Nat) (c : Str) (n : Nat) (m : Fn) (n1 : Nat) (ks : List Str) : Prop where
  ex : ∃ (C fa : Addr) (fd : FuncData) (ps : List Str), G.cls c = some C ∧ mg c = some (.ref C) ∧ Mk K C fa ∧ FnOk P w K mg base (L2.CX P w) k fa fd ps (spM G m n) ∧ KBn K fd ps (n1 + 1) ks apU apV
section
variable {X : Cx} {G : GG} {g : Gh} {W : WX} {pos p : Pos} {k j n n1 : Nat} {c : Str} {m : Fn}
theorem me_mk {e : Expr} {es : List Expr} {r : List S → R (List HV)} {dv : List D} (d : MkM X.prog X.w X.K X.mg X.base G k c n m dv) (hr : Room j X.A) (hk : k + 1 ≤ j) (hg : Gl X c) (tk : Takes X W) (ha : MA X G g W (e :: es) r)
    (hdb : (c == ("__debug__" : Str)) = false := by decide) (he : starEach (e :: es) X.env = (false, eval e X.env) :: starEach es X.env := by rfl) (hpl : (backTo pos (starEach es X.env)).any (·.1) = false := by rfl) : ME X G g W (.Call (.Name c p) (e :: es) [] pos) (mMake n c m dv r) := by
  obtain ⟨C, fa, fd, ps, ds, dvs, hC, hm, mk, fo, hb, hd, hdv⟩ := d.ex
  exact me_make hC mk fo (hr.mono hk) hg hm hb hd hdv tk ha hdb he hpl
theorem me_mkK {e : Expr} {es : List Expr} {kws : List Keyword} {ks : List Str} {n2 : Nat} {r rk : List S → R (List HV)} (d : MkK X.prog X.w X.K X.mg X.base G k c n m n1 ks) (hr : Room j X.A) (hk : k + 1 ≤ j) (hg : Gl X c) (tk : Takes X W) (ha : MA X G g W (e :: es) r) (hkw : MK X G g W kws rk)
    (hall : (backToKw pos (keywordEach kws X.env)).all (·.1.isSome) = true := by rfl) (hks : (backToKw pos (keywordEach kws X.env)).filterMap (·.1) = ks := by rfl) (hn2 : ks.length = n2 := by rfl) (hdb : (c == ("__debug__" : Str)) = false := by decide)
    (he : starEach (e :: es) X.env = (false, eval e X.env) :: starEach es X.env := by rfl) (hpl : ((backTo pos (starEach (e :: es) X.env)).any (·.1) || (backToKw pos (keywordEach kws X.env)).any (·.1.isNone)) = false := by rfl) :
    ME X G g W (.Call (.Name c p) (e :: es) kws pos) (mMakeK n c m n1 n2 r rk) := by
  obtain ⟨C, fa, fd, ps, hC, hm, mk, fo, hb⟩ := d.ex
  subst hn2
  exact me_makeK hC mk fo (hr.mono hk) hg hm hb tk ha hkw hall hks hdb he hpl
end
/-! ### facts of the written part, as Bools -/
def fOr (b : Option Bool) (v : Bool) : Bool := decide (b = some v)
def fMet (c m : Str) : PySem.W.Frag → Bool := fun K => (He.Fa.meth c m).ok K && PySem.W.fnIn K (He.ma K (He.ga K c) m)
def fFld (c f : Str) : PySem.W.Frag → Bool := fun K => (He.Fa.cls c).ok K && (He.Fa.noat c f).ok K
/-- a property's getter -/
def pgA (K : PySem.W.Frag) (c f : Str) : Addr := match PySem.W.recIn K (He.ma K (He.ga K c) f) "property" with
  | some (.ref a :: _) => a
  | _ => 0
def fPrp (c f : Str) : PySem.W.Frag → Bool := fun K => (He.Fa.cls c).ok K && (He.eqO (PySem.W.findIn K (.ref (He.ga K c)) f) (some (some (.ref (He.ma K (He.ga K c) f)))) && (He.eqO (PySem.W.specialIn K (.ref (He.ma K (He.ga K c) f)) "__get__") (some (some (.builtin "property.__get__"))) && (fOr (PySem.W.takesIn K (.ref (He.ma K (He.ga K c) f))) true &&
  (match PySem.W.recIn K (He.ma K (He.ga K c) f) "property" with
    | some (.ref _ :: _) => true
    | _ => false))))
def fRead (c : Str) : PySem.W.Frag → Bool := fun K => PySem.W.readsIn K (He.ga K c) (.type "type") && He.eqO (PySem.W.specialIn K (.ref (He.ga K c)) "__getattribute__") (some (some (.builtin "type.__getattribute__")))
def fSta (c m : Str) : PySem.W.Frag → Bool := fun K => fRead c K && (He5.wrapB K (He.ga K c) "staticmethod" "staticmethod.__get__" m && PySem.W.keepIn K (.ref (He5.wf K (He.ga K c) "staticmethod" m)))
def fClm (c m : Str) : PySem.W.Frag → Bool := fun K => fRead c K && (He5.wrapB K (He.ga K c) "classmethod" "classmethod.__get__" m && PySem.W.fnIn K (He5.wf K (He.ga K c) "classmethod" m))
def fSi (c : Str) : PySem.W.Frag → Bool := fun K => (He.Fa.cls c).ok K && (He.eqO (PySem.W.findIn K (.ref (He.ga K c)) "__class__") (some (some (.builtin "object.__class__"))) && (He.eqO (PySem.W.specialIn K (.builtin "object.__class__") "__get__") (some (some (.builtin "getset_descriptor.__get__"))) && (fOr (PySem.W.takesIn K (.builtin "object.__class__")) true && fOr (PySem.W.mroIn K (He.ga K c) (.type "object")) true)))
def fCls (cs : List Str) (c : Str) : PySem.W.Frag → Bool := fun K => (He.Fa.glo c).ok K && ((tNames.all fun t => fOr (PySem.W.kitOne K (.type t) (.ref (He.ga K c))) false && PySem.W.notFirst K (He.ga K c) (.type t)) &&
  cs.all fun c' => fOr (PySem.W.kitOne K (.ref (He.ga K c')) (.ref (He.ga K c))) (decide (c' = c)) && (PySem.W.notFirst K (He.ga K c) (.ref (He.ga K c')) && fSi c' K))
def fNe (c : Str) : PySem.W.Frag → Bool := fun K => fOr (PySem.W.subIn K (.ref (He.ga K c)) (.type "object")) true && He.eqO (PySem.W.findIn K (.ref (He.ga K c)) "__ne__") (some (some (.builtin "object.__ne__")))
def fSelf (c : Str) : PySem.W.Frag → Bool := fun K => PySem.W.selfFirst K (He.ga K c)
def fMkr (c : Str) : PySem.W.Frag → Bool := fun K => (He.Fa.mkr c).ok K
section
variable {K : PySem.W.Frag} {names : List Str} {c m f : Str}
theorem fOr_ok {b : Option Bool} {v : Bool} (h : fOr b v = true) : b = some v := of_decide_eq_true h
theorem ba3 {a b : Bool} (h : (a && b) = true) : a = true ∧ b = true := Bool.and_eq_true_iff.mp h
theorem fldF_of {cs : List Str} (hn : ∀ c ∈ cs, names.contains c = true) (h : ∀ c ∈ cs, fFld c f K = true) : FldF K (clsOf names K) cs f := ⟨fun c C hc e => by
  rw [clsOf_at (hn c hc)] at e
  cases e
  obtain ⟨h1, h2⟩ := ba3 (h c hc)
  exact ⟨He.cls_ok h1, He.noat_ok h2⟩⟩
theorem si_ok (h : fSi c K = true) : Cls K (He.ga K c) ∧ SlX.SIsi K (He.ga K c) := by
  obtain ⟨h1, h⟩ := ba3 h
  obtain ⟨h2, h⟩ := ba3 h
  obtain ⟨h3, h⟩ := ba3 h
  obtain ⟨h4, h5⟩ := ba3 h
  exact ⟨He.cls_ok h1, He.eqO_ok h2, He.eqO_ok h3, fOr_ok h4, fOr_ok h5⟩
theorem clsF_of {mg : Str → Option Value} {h : Heap} {cs : List Str} (X : K.In h) (N : h.Ns mainGlobals mg) (hn : names.contains c = true) (hcs : ∀ c ∈ cs, names.contains c = true) (hf : fCls cs c K = true) : ClsF K mg (clsOf names K) cs c := by
  obtain ⟨h1, h⟩ := ba3 hf
  obtain ⟨h2, h3⟩ := ba3 h
  refine ⟨_, clsOf_at hn, He.glo_ok X N h1, fun t ht => ?_, fun c' hc' => ?_⟩
  · obtain ⟨a, b⟩ := ba3 (List.all_eq_true.mp h2 t ht)
    exact ⟨fOr_ok a, b⟩
  · obtain ⟨a, b⟩ := ba3 (List.all_eq_true.mp h3 c' hc')
    obtain ⟨b1, b2⟩ := ba3 b
    exact ⟨_, clsOf_at (hcs c' hc'), fOr_ok a, b1, (si_ok b2).1, (si_ok b2).2⟩
theorem eqF_of {mg : Str → Option Value} {cs : List Str} {own : Own} (h1 : ∀ q ∈ own, ClsF K mg (clsOf names K) cs q.1) (h2 : ∀ q ∈ own, fNe q.1 K = true ∧ names.contains q.1 = true) : EqF K mg (clsOf names K) cs own := ⟨h1, fun q hq C e => by
  rw [clsOf_at (h2 q hq).2] at e
  cases e
  obtain ⟨a, b⟩ := ba3 (h2 q hq).1
  exact ⟨fOr_ok a, He.eqO_ok b⟩⟩
theorem selfF_of {own : Own} (h : ∀ q ∈ own, fSelf q.1 K = true ∧ names.contains q.1 = true) : ∀ q ∈ own, ∀ C, clsOf names K q.1 = some C → PySem.W.selfFirst K C = true := fun q hq C e => by
  rw [clsOf_at (h q hq).2] at e
  cases e
  exact (h q hq).1
variable {P : Program} {w : World} {mg : Str → Option Value} {base : Heap} {T : List (Addr × Str)} {k n : Nat} {fn : Fn} {fd : FuncData} {ps : List Str}
theorem dun_of (hn : names.contains c = true) (hm : fMet c m K = true) (hs : fSi c K = true) (fo : FnOk P w K mg base (L2.CX P w) k (He.ma K (He.ga K c) m) fd ps (spM ⟨K, clsOf names K, T⟩ fn n)) (hb : Binds K fd ps []) : Dun P w K mg base ⟨K, clsOf names K, T⟩ k c m n fn := by
  obtain ⟨h1, h2⟩ := ba3 hm
  have M := He.meth_ok h1
  exact ⟨_, _, fd, ps, clsOf_at hn, (si_ok hs).1, M.at_, M.fn, M.kp, h2, fo, hb⟩
theorem prp_of (hn : names.contains c = true) (hp : fPrp c f K = true) (fo : FnOk P w K mg base (L2.CX P w) k (pgA K c f) fd ps (spM ⟨K, clsOf names K, T⟩ fn 1)) (hb : Binds K fd ps []) : Prp P w K mg base ⟨K, clsOf names K, T⟩ k c f fn := by
  obtain ⟨h1, h⟩ := ba3 hp
  obtain ⟨h2, h⟩ := ba3 h
  obtain ⟨h3, h⟩ := ba3 h
  obtain ⟨h4, h5⟩ := ba3 h
  refine ⟨_, He.ma K (He.ga K c) f, pgA K c f, fd, ps, clsOf_at hn, He.cls_ok h1, ⟨He.eqO_ok h2, He.eqO_ok h3, fOr_ok h4, ?_⟩, fo, hb⟩
  unfold pgA
  split at h5
  · rename_i a r e
    exact ⟨r, by rw [e]⟩
  · cases h5
theorem read_ok (h : fRead c K = true) : ClX.CRead K (He.ga K c) (.type "type") := by
  obtain ⟨a, b⟩ := ba3 h
  exact ⟨a, He.eqO_ok b⟩
theorem stm_of (hn : names.contains c = true) (hp : fSta c m K = true) (fo : FnOk P w K mg base (L2.CX P w) k (He5.wf K (He.ga K c) "staticmethod" m) fd ps (spM ⟨K, clsOf names K, T⟩ fn n)) (hb : Binds K fd ps []) : StM P w K mg base ⟨K, clsOf names K, T⟩ k c m n fn := by
  obtain ⟨h1, h⟩ := ba3 hp
  obtain ⟨h2, h3⟩ := ba3 h
  obtain ⟨w1, rest, w2⟩ := He5.wrapB_ok h2
  exact ⟨_, _, _, fd, ps, _, rest, clsOf_at hn, read_ok h1, w1, w2, h3, fo, hb⟩
theorem cmm_of (hn : names.contains c = true) (hp : fClm c m K = true) (fo : FnOk P w K mg base (L2.CX P w) k (He5.wf K (He.ga K c) "classmethod" m) fd ps (spM ⟨K, clsOf names K, T⟩ fn n)) (hb : Binds K fd ps []) : CmM P w K mg base ⟨K, clsOf names K, T⟩ k c m n fn := by
  obtain ⟨h1, h⟩ := ba3 hp
  obtain ⟨h2, h3⟩ := ba3 h
  exact ⟨_, _, _, fd, ps, _, clsOf_at hn, read_ok h1, He5.cmet_of h2 h3, fo, hb⟩
theorem mkM_of {h : Heap} {dv : List D} {dvs : List V} (X : K.In h) (N : h.Ns mainGlobals mg) (hn : names.contains c = true) (hg : (He.Fa.glo c).ok K = true) (hp : fMkr c K = true) (fo : FnOk P w K mg base (L2.CX P w) k (He.ma K (He.ga K c) "__init__") fd ps (spM ⟨K, clsOf names K, T⟩ fn n)) (hb : ∃ ds, Vals dvs ds ∧ Binds K fd ps ds)
    (hdv : ∀ F, RepA ⟨K, clsOf names K, T⟩ F dvs dv) : MkM P w K mg base ⟨K, clsOf names K, T⟩ k c n fn dv := by
  obtain ⟨ds, v, b⟩ := hb
  exact ⟨_, _, fd, ps, ds, dvs, clsOf_at hn, He.glo_ok X N hg, He.mkr_ok hp, fo, b, v, hdv⟩
theorem mkK_of {h : Heap} {n1 : Nat} {ks : List Str} (X : K.In h) (N : h.Ns mainGlobals mg) (hn : names.contains c = true) (hg : (He.Fa.glo c).ok K = true) (hp : fMkr c K = true) (fo : FnOk P w K mg base (L2.CX P w) k (He.ma K (He.ga K c) "__init__") fd ps (spM ⟨K, clsOf names K, T⟩ fn n)) (hb : KBn K fd ps (n1 + 1) ks apU apV) : MkK P w K mg base ⟨K, clsOf names K, T⟩ k c n fn n1 ks :=
  ⟨_, _, fd, ps, clsOf_at hn, He.glo_ok X N hg, He.mkr_ok hp, fo, hb⟩
end
end MM
set_option Elab.async false
set_option maxRecDepth 100000
set_option maxHeartbeats 4000000
namespace MM
open PySem
/-! ### evaluation of mirrors -/
theorem bind_ok {α β : Type} (a : α) (ρ : List S) (k : α → List S → R β) : (R.ok a ρ).bind k = k a ρ := rfl
theorem of_ok {α : Type} (a : α) (ρ : List S) (k : α → List S → Out) : Out.of (R.ok a ρ) k = k a ρ := rfl
def bitB : Sm := sSeq (sIf (mTestB (mBin gtD (mBin ixD (mVar 0) (mC (.int 0))) (mC (.int 0)))) (sSeq (sSet 2 (mBin modD (mCB intD (mCons (mBin ixD (mVar 0) (mC (.int 0))) (mNil))) (mVar 1))) (sSeq (sSetIx 0 (mC (.int 0)) (mBin fdivD (mBin ixD (mVar 0) (mC (.int 0))) (mVar 1))) (sRet (mVar 2)))) (sNext)) (sSeq (sSetIx 0 (mC (.int 2)) (mBin addD (mBin ixD (mVar 0) (mC (.int 2))) (mC (.int 1)))) (sSeq (sSet 3 (mBin modD (mCB intD (mCons (mBin addD (mBin ixD (mVar 0) (mC (.int 1))) (mBin mulD (mC (.int 1000423)) (mBin ixD (mVar 0) (mC (.int 2))))) (mNil))) (mC (.int 2305843009213693951)))) (sSeq (sSet 4 (mBin addD (mBin mulD (mBin modD (mCB intD (mCons (mBin mulD (mVar 3) (mVar 3)) (mNil))) (mC (.int 2305843009213693921))) (mVar 3)) (mBin mulD (mC (.int 9127)) (mBin ixD (mVar 0) (mC (.int 2)))))) (sRet (mBin modD (mCB intD (mCons (mBin fdivD (mBin modD (mCB intD (mCons (mVar 4) (mNil))) (mC (.int 2305843009213693907))) (mC (.int 16384))) (mNil))) (mVar 1))))))
def bitM : Fn := fnM 5 bitB
theorem bit_pos {a b c m : Int} (ha : 0 < a) (hm : 0 < m) (hl : m.natAbs.log2 < 9000) : bitM [.p (.lst [.int a, .int b, .int c]), .d (.int m)] = .rt (.d (.int (a % m))) [.p (.lst [.int (a / m), .int b, .int c]), .d (.int m), .d (.int (a % m)), .un, .un] := by
  simp [bitM, fnM, bitB, sSeq, sIf, mTestB, mBin, mVar, mC, mHold, R.bind, Out.of, peekH, ixD, L2.atI, L2.ixN, ret, gtD, cmpD, ha, sSet, mCB, mCons, mNil, peekHs, intD, modD, hm, putRV, putD, nxO, sSetIx, mForce, forceRV, fdivD, hl, S.own, S.chg, sRet, retv]
theorem log2_lt {n k : Nat} (h : n < 2 ^ k) (hk : 0 < k) : n.log2 < k := by
  by_cases h0 : n = 0
  · subst h0
    simpa using hk
  · exact (Nat.log2_lt h0).mpr h
theorem mulOk_of {i j : Int} (hi : i.natAbs < 2 ^ 4000) (hj : j.natAbs < 2 ^ 4000) : mulOk i j = true := by
  have h1 := log2_lt hi (by decide)
  have h2 := log2_lt hj (by decide)
  unfold mulOk
  rw [decide_eq_true_eq]
  omega
theorem abs_lt {i : Int} {k : Nat} (h0 : 0 ≤ i) (h : i < 2 ^ k) : i.natAbs < 2 ^ k := by
  have e : ((2 ^ k : Nat) : Int) = 2 ^ k := by simp
  omega
theorem pow_le_big {k : Nat} (h : k ≤ 4000) {n : Nat} (hn : n < 2 ^ k) : n < 2 ^ 4000 := Nat.lt_of_lt_of_le hn (Nat.pow_le_pow_right (by decide) h)
theorem bit_neg {a b c m : Int} (ha : ¬ 0 < a) (hm : 0 < m) (hl : m.natAbs.log2 < 9000) (hb : 0 ≤ b) (hb2 : b < 2 ^ 62) (hc : 0 ≤ c) (hc2 : c < 2 ^ 62) :
    ∃ r ρ, bitM [.p (.lst [.int a, .int b, .int c]), .d (.int m)] = .rt (.d (.int (r % m))) (.p (.lst [.int a, .int b, .int (c + 1)]) :: ρ) := by
  have h1 : mulOk 1000423 (c + 1) = true := mulOk_of (by decide) (pow_le_big (k := 63) (by decide) (abs_lt (by omega) (by omega)))
  have f0 : 0 ≤ (b + 1000423 * (c + 1)) % 2305843009213693951 := Int.emod_nonneg _ (by decide)
  have f1 : (b + 1000423 * (c + 1)) % 2305843009213693951 < 2 ^ 61 := by
    have := Int.emod_lt_of_pos (b + 1000423 * (c + 1)) (b := 2305843009213693951) (by decide)
    omega
  generalize hf : (b + 1000423 * (c + 1)) % 2305843009213693951 = first at f0 f1
  have h2 : mulOk first first = true := mulOk_of (pow_le_big (k := 61) (by decide) (abs_lt f0 f1)) (pow_le_big (k := 61) (by decide) (abs_lt f0 f1))
  have g0 : 0 ≤ (first * first) % 2305843009213693921 := Int.emod_nonneg _ (by decide)
  have g1 : (first * first) % 2305843009213693921 < 2 ^ 61 := by
    have := Int.emod_lt_of_pos (first * first) (b := 2305843009213693921) (by decide)
    omega
  have h3 : mulOk ((first * first) % 2305843009213693921) first = true := mulOk_of (pow_le_big (k := 61) (by decide) (abs_lt g0 g1)) (pow_le_big (k := 61) (by decide) (abs_lt f0 f1))
  have h4 : mulOk 9127 (c + 1) = true := mulOk_of (by decide) (pow_le_big (k := 63) (by decide) (abs_lt (by omega) (by omega)))
  have h5 : Nat.log2 16384 < 9000 := by decide
  refine ⟨((first * first) % 2305843009213693921 * first + 9127 * (c + 1)) % 2305843009213693907 / 16384, [.d (.int m), .un, .d (.int first), .d (.int ((first * first) % 2305843009213693921 * first + 9127 * (c + 1)))], ?_⟩
  simp [bitM, fnM, bitB, sSeq, sIf, mTestB, mBin, mVar, mC, mHold, R.bind, Out.of, peekH, ixD, L2.atI, L2.ixN, ret, gtD, cmpD, ha, sSet, mCB, mCons, mNil, peekHs, intD, modD, hm, putRV, putD, nxO, sSetIx, mForce, forceRV, fdivD, hl, S.own, S.chg, sRet, retv, sNext, addD, mulD, h1, h2, h3, h4, h5, hf]
/-- a tray, n draws after it was made -/
def TrayOk (n : Nat) (x : D) : Prop := ∃ a b c : Int, x = .lst [.int a, .int b, .int c] ∧ 0 ≤ a ∧ 0 ≤ b ∧ b < 2 ^ 62 ∧ 0 ≤ c ∧ c ≤ n
theorem TrayOk.mono {n k : Nat} {x : D} (h : TrayOk n x) (l : n ≤ k) : TrayOk k x := by
  obtain ⟨a, b, c, e, h1, h2, h3, h4, h5⟩ := h
  exact ⟨a, b, c, e, h1, h2, h3, h4, by omega⟩
theorem bit_ok {n : Nat} {x : D} {m : Int} (h : TrayOk n x) (hn : n < 2 ^ 61) (hm : 0 < m) (hm2 : m < 2 ^ 62) :
    ∃ r x' ρ, bitM [.p x, .d (.int m)] = .rt (.d (.int r)) (.p x' :: ρ) ∧ 0 ≤ r ∧ r < m ∧ TrayOk (n + 1) x' := by
  obtain ⟨a, b, c, rfl, h1, h2, h3, h4, h5⟩ := h
  have hl : m.natAbs.log2 < 9000 := Nat.lt_of_lt_of_le (log2_lt (abs_lt (k := 62) (by omega) hm2) (by decide)) (by decide)
  by_cases ha : 0 < a
  · exact ⟨_, _, _, bit_pos ha hm hl, Int.emod_nonneg _ (by omega), Int.emod_lt_of_pos _ hm, _, _, _, rfl, Int.ediv_nonneg h1 (by omega), h2, h3, h4, by omega⟩
  · obtain ⟨r, ρ, e⟩ := bit_neg (a := a) (b := b) (c := c) ha hm hl h2 h3 h4 (by omega)
    exact ⟨_, _, _, e, Int.emod_nonneg _ (by omega), Int.emod_lt_of_pos _ hm, _, _, _, rfl, h1, h2, h3, by omega, by omega⟩
/-! ### a new tray -/
def trayB : Sm := sSeq (sSet 2 (mIf (mTestB (mBin ltD (mVar 1) (mCB lenD (mCons (mVar 0) (mNil))))) (mBin ixD (mVar 0) (mVar 1)) (mBin addD (mBin mulD (mC (.int 67)) (mVar 1)) (mC (.int 29))))) (sSeq (sSet 3 (mBin modD (mCB intD (mCons (mCB absD (mCons (mVar 2) (mNil))) (mNil))) (mBin powD (mBin powD (mC (.int 10)) (mC (.int 61))) (mC (.int 11))))) (sSeq (sSet 4 (mBin addD (mBin addD (mBin addD (mBin mulD (mBin modD (mCB intD (mCons (mVar 3) (mNil))) (mC (.int 2147483249))) (mC (.int 98347))) (mBin mulD (mC (.int 9421)) (mVar 1))) (mBin mulD (mC (.int 47)) (mCB intD (mCons (mBin ltD (mVar 2) (mC (.int 0))) (mNil))))) (mC (.int 61)))) (sRet (mLst (mCons (mCB maxD (mCons (mC (.int 0)) (mCons (mBin subD (mVar 3) (mBin powD (mC (.int 10)) (mC (.int 18)))) (mNil)))) (mCons (mBin modD (mCB intD (mCons (mVar 4) (mNil))) (mC (.int 2305843009213693907))) (mCons (mC (.int 0)) (mNil))))))))
def trayM : Fn := fnM 5 trayB
def trayB1 : Sm := sSet 2 (mIf (mTestB (mBin ltD (mVar 1) (mCB lenD (mCons (mVar 0) (mNil))))) (mBin ixD (mVar 0) (mVar 1)) (mBin addD (mBin mulD (mC (.int 67)) (mVar 1)) (mC (.int 29))))
def trayB2 : Sm := sSeq (sSet 3 (mBin modD (mCB intD (mCons (mCB absD (mCons (mVar 2) (mNil))) (mNil))) (mBin powD (mBin powD (mC (.int 10)) (mC (.int 61))) (mC (.int 11))))) (sSeq (sSet 4 (mBin addD (mBin addD (mBin addD (mBin mulD (mBin modD (mCB intD (mCons (mVar 3) (mNil))) (mC (.int 2147483249))) (mC (.int 98347))) (mBin mulD (mC (.int 9421)) (mVar 1))) (mBin mulD (mC (.int 47)) (mCB intD (mCons (mBin ltD (mVar 2) (mC (.int 0))) (mNil))))) (mC (.int 61)))) (sRet (mLst (mCons (mCB maxD (mCons (mC (.int 0)) (mCons (mBin subD (mVar 3) (mBin powD (mC (.int 10)) (mC (.int 18)))) (mNil)))) (mCons (mBin modD (mCB intD (mCons (mVar 4) (mNil))) (mC (.int 2305843009213693907))) (mCons (mC (.int 0)) (mNil)))))))
theorem trayB_eq : trayB = sSeq trayB1 trayB2 := rfl
theorem tray1 (ns : List Int) (k : Nat) (h : k < 2 ^ 20) : ∃ cell : Int, trayB1 [.d (.ro (ns.map D.int)), .d (.int k), .un, .un, .un] = .nx [.d (.ro (ns.map D.int)), .d (.int k), .d (.int cell), .un, .un] := by
  by_cases hl : k < ns.length
  · refine ⟨ns[k], ?_⟩
    have h1 : (k : Int) < ns.length := by omega
    simp [trayB1, sSet, mIf, mTestB, mBin, mVar, mCB, mCons, mNil, mHold, R.bind, Out.of, peekH, peekHs, lenD, ltD, cmpD, ret, h1, ixD, L2.atI, L2.ixN, putRV, putD, nxO, hl]
  · refine ⟨67 * k + 29, ?_⟩
    have h1 : ¬ (k : Int) < ns.length := by omega
    have h2 : mulOk 67 k = true := mulOk_of (by decide) (pow_le_big (k := 20) (by decide) (abs_lt (by omega) (by omega)))
    simp [trayB1, sSet, mIf, mTestB, mBin, mVar, mCB, mCons, mNil, mHold, R.bind, Out.of, peekH, peekHs, lenD, ltD, cmpD, ret, h1, addD, mulD, h2, putRV, putD, nxO, mC]
theorem pow_eq {i j : Int} (h : 0 ≤ j ∧ (Builtin.Int.intBits i : Int) * j ≤ 2 ^ 27) : powD (.int i) (.int j) = some (.d (.int (i ^ j.toNat))) := if_pos h
theorem tray_ok (ns : List Int) (k : Nat) (h : k < 2 ^ 20) : ∃ x ρ, trayM [.d (.ro (ns.map D.int)), .d (.int k)] = .rt (.f x) ρ ∧ TrayOk 0 x := by
  obtain ⟨cell, e⟩ := tray1 ns k h
  have e1 : trayM [.d (.ro (ns.map D.int)), .d (.int k)] = (match trayB2 [.d (.ro (ns.map D.int)), .d (.int k), .d (.int cell), .un, .un] with
    | .nx ρ => .rt (.d .non) ρ
    | .rt rv ρ => (match retv rv ρ with
      | some rv' => .rt rv' ρ
      | none => .bad)
    | .ex e ρ => .ex e ρ
    | _ => .bad) := by
    show (match sSeq trayB1 trayB2 [.d (.ro (ns.map D.int)), .d (.int k), .un, .un, .un] with
    | .nx ρ => FO.rt (.d .non) ρ
    | .rt rv ρ => (match retv rv ρ with
      | some rv' => .rt rv' ρ
      | none => .bad)
    | .ex e ρ => .ex e ρ
    | _ => .bad) = _
    unfold sSeq
    rw [e]
  rw [e1]
  obtain ⟨x1, p1, x2, p2, hP⟩ : ∃ x1, powD (.int 10) (.int 61) = some (.d (.int x1)) ∧ ∃ x2, powD (.int x1) (.int 11) = some (.d (.int x2)) ∧ 0 < x2 := by
    exact ⟨10 ^ 61, pow_eq (by decide +kernel), (10 ^ 61) ^ 11, pow_eq (by decide +kernel), by decide +kernel⟩
  obtain ⟨x3, p3⟩ : ∃ x3, powD (.int 10) (.int 18) = some (.d (.int x3)) := by
    exact ⟨10 ^ 18, pow_eq (by decide +kernel)⟩
  generalize hA : (if cell < 0 then -cell else cell) = ab
  have g0 : 0 ≤ ab % x2 := Int.emod_nonneg _ (by omega)
  generalize hG : ab % x2 = great at g0
  have k0 : 0 ≤ great % 2147483249 := Int.emod_nonneg _ (by decide)
  have k1 : great % 2147483249 < 2147483249 := Int.emod_lt_of_pos _ (by decide)
  have m1 : mulOk (great % 2147483249) 98347 = true := mulOk_of (pow_le_big (k := 31) (by decide) (abs_lt k0 (by omega))) (by decide)
  have m2 : mulOk 9421 k = true := mulOk_of (by decide) (pow_le_big (k := 20) (by decide) (abs_lt (by omega) (by omega)))
  have m3 : mulOk 47 (if cell < 0 then 1 else 0) = true := by
    split <;> exact mulOk_of (by decide) (by decide)
  have n0 : ∀ z : Int, 0 ≤ z % 2305843009213693907 := fun z => Int.emod_nonneg _ (by decide)
  have n1 : ∀ z : Int, z % 2305843009213693907 < 2 ^ 62 := fun z => by
    have := Int.emod_lt_of_pos z (b := 2305843009213693907) (by decide)
    omega
  refine ⟨.lst [.int (if great - x3 > 0 then great - x3 else 0), .int ((great % 2147483249 * 98347 + 9421 * k + 47 * (if cell < 0 then 1 else 0) + 61) % 2305843009213693907), .int 0], [.d (.ro (ns.map D.int)), .d (.int k), .d (.int cell), .d (.int great), .d (.int (great % 2147483249 * 98347 + 9421 * k + 47 * (if cell < 0 then 1 else 0) + 61))], ?_, _, _, _, rfl, ?_, n0 _, n1 _, Int.le_refl _, Int.le_refl _⟩
  · simp [trayB2, sSeq, sSet, mTestB, mBin, mVar, mCB, mCons, mNil, mHold, R.bind, Out.of, peekH, peekHs, ltD, cmpD, ret, addD, subD, mulD, modD, putRV, putD, nxO, mC, intD, absD, maxD, p1, p2, p3, hP, hA, hG, m1, m2, m3, sRet, mLst, forceHs, forceH, retv, sizeLine]
  · split <;> omega
end MM
set_option Elab.async false
set_option maxRecDepth 100000
set_option maxHeartbeats 4000000
namespace MM
open PySem
def pickB : Sm := sRet (mBin ixD (mVar 1) (mCall 2 bitM (mCons (mVar 0) (mCons (mCB lenD (mCons (mVar 1) (mNil))) (mNil)))))
def pickM : Fn := fnM 2 pickB
theorem pick_lst {n : Nat} {x : D} {l : List D} (h : TrayOk n x) (hn : n < 2 ^ 61) (hl : 0 < l.length) (hl2 : l.length < 2 ^ 62) :
    ∃ (i : Nat) (y x' : D) (ρ : List S), l[i]? = some y ∧ pickM [.p x, .d (.lst l)] = .rt (.d y) (.p x' :: ρ) ∧ TrayOk (n + 1) x' := by
  obtain ⟨r, x', ρ, e, h0, h1, h2⟩ := bit_ok (m := l.length) h hn (by omega) (by omega)
  obtain ⟨i, rfl⟩ : ∃ i : Nat, r = i := ⟨r.toNat, by omega⟩
  have hi : i < l.length := by omega
  refine ⟨i, l[i], x', [.d (.lst l)], List.getElem?_eq_getElem hi, ?_, h2⟩
  simp [pickM, fnM, pickB, sRet, mBin, mVar, mCall, mCons, mNil, mCB, mHold, R.bind, Out.of, peekH, peekHs, lenD, ret, argsOk, argOk, ownIx, argS, backS, newOf, e, ixD, L2.atI, L2.ixN, hi, retv, List.filterMap_cons]
end MM
set_option Elab.async false
set_option maxRecDepth 100000
set_option maxHeartbeats 4000000
namespace MM
open PySem
/-! ### loops that go through -/
theorem loopM_go {body : D → List S → Out} (st : Nat → List S) : ∀ (items : List D) (k : Nat), (∀ i x, items[i]? = some x → body x (st (k + i)) = .nx (st (k + i + 1)) ∨ body x (st (k + i)) = .ct (st (k + i + 1))) → loopM body items (st k) = .nx (st (k + items.length))
  | [], k, _ => rfl
  | x :: r, k, h => by
    have h0 := h 0 x rfl
    have ih := loopM_go st r (k + 1) fun i y e => by
      have := h (i + 1) y e
      have e1 : k + (i + 1) = k + 1 + i := by omega
      rwa [e1] at this
    have e2 : k + (x :: r).length = k + 1 + r.length := by simp; omega
    rw [e2]
    unfold loopM
    rcases h0 with h0 | h0
    · have h0 : body x (st k) = .nx (st (k + 1)) := h0
      rw [h0]
      exact ih
    · have h0 : body x (st k) = .ct (st (k + 1)) := h0
      rw [h0]
      exact ih
theorem rngD_get {lo : Int} {n i : Nat} {x : D} (h : (rngD lo n)[i]? = some x) : i < n ∧ x = .int (lo + (i : Nat)) := by
  unfold rngD at h
  rw [List.getElem?_map] at h
  cases q : (List.range n)[i]? with
  | none => rw [q] at h; cases h
  | some j =>
    rw [q] at h
    obtain ⟨h1, h2⟩ := List.getElem?_eq_some_iff.mp q
    simp at h1 h2
    subst h2
    cases h
    exact ⟨h1, rfl⟩
theorem rngD_length {lo : Int} {n : Nat} : (rngD lo n).length = n := by simp [rngD]
theorem rngOk_small {i j : Int} (h1 : -1000000 ≤ i) (h2 : i ≤ 1000000) (h3 : -1000000 ≤ j) (h4 : j ≤ 1000000) : rngOk i j = true := by
  have k1 : i.natAbs.log2 < 61 := log2_lt (by omega) (by decide)
  have k2 : j.natAbs.log2 < 61 := log2_lt (by omega) (by decide)
  unfold rngOk
  rw [decide_eq_true k1, decide_eq_true k2]
  rfl
theorem src1 {r : List S → R (List HV)} {ρ : List S} {n : Nat} (h : r ρ = .ok [.d (.int n)] ρ) (hn : n ≤ 1000000) : mSrc rng1 r ρ = .ok (rngD 0 n) ρ := by
  have ok : rngOk 0 n = true := rngOk_small (by decide) (by decide) (by omega) (by omega)
  have e : rng1 [.int n] = some (rngD 0 n) := by simp only [rng1, ok, if_true, Int.toNat_natCast]
  simp only [mSrc, h, bind_ok, forceHs, forceH, e]
theorem src2 {r : List S → R (List HV)} {ρ : List S} {i j : Int} (h : r ρ = .ok [.d (.int i), .d (.int j)] ρ) (h1 : -1000000 ≤ i) (h2 : i ≤ 1000000) (h3 : -1000000 ≤ j) (h4 : j ≤ 1000000) : mSrc rng2 r ρ = .ok (rngD i (j - i).toNat) ρ := by
  have e : rng2 [.int i, .int j] = some (rngD i (j - i).toNat) := by simp only [rng2, rngOk_small h1 h2 h3 h4, if_true]
  simp only [mSrc, h, bind_ok, forceHs, forceH, e]
theorem for_of {it : List S → R (List D)} {t : Tg} {m : Sm} {ρ ρ1 : List S} {items : List D} {o : Out} (h : it ρ = .ok items ρ1) (k : loopM (fun x ρ => match t.put x ρ with
  | some ρ2 => m ρ2
  | none => .bad) items ρ1 = o) : sFor it t m ρ = o := by
  unfold sFor
  rw [h]
  exact k
def endF : Out → FO
  | .nx ρ => .rt (.d .non) ρ
  | .rt rv ρ => (match retv rv ρ with
    | some rv' => .rt rv' ρ
    | none => .bad)
  | .ex e ρ => .ex e ρ
  | _ => .bad
theorem fnM_at {N : Nat} {b : Sm} {ss : List S} : fnM N b ss = endF (b (ss ++ List.replicate (N - ss.length) .un)) := by
  unfold fnM
  cases b (ss ++ List.replicate (N - ss.length) .un) <;> rfl
theorem seq_nx {a b : Sm} {ρ ρ1 : List S} (h : a ρ = .nx ρ1) : sSeq a b ρ = b ρ1 := by
  unfold sSeq
  rw [h]
theorem fnM_seq {N : Nat} {a b : Sm} {ss ρ1 : List S} (h : a (ss ++ List.replicate (N - ss.length) .un) = .nx ρ1) : fnM N (sSeq a b) ss = endF (b ρ1) := by
  rw [fnM_at, seq_nx h]
/-- a slot that a loop's name may take -/
def S.free : S → Prop
  | .p _ => False
  | _ => True
theorem putD_at {i : Nat} {x : D} {ρ : List S} {s : S} (h : ρ[i]? = some s) (f : s.free) : putD i x ρ = some (ρ.set i (.d x)) := by
  unfold putD
  rw [h]
  cases s with
  | p y => exact f.elim
  | un => rfl
  | d y => rfl
  | o y => rfl
theorem eqD_int {i j : Int} : eqD (.int i) (.int j) = some (.d (.bl (decide (i = j)))) := by
  have e : D.eqv (.int i) (.int j) = decide (i = j) := by
    show (i == j) = _
    exact Bool.eq_iff_iff.mpr (by simp)
  have k : ∀ i : Int, okD (.int i) = true := fun i => rfl
  unfold eqD eqB
  simp [k, e]
theorem neD_int {i j : Int} : neD (.int i) (.int j) = some (.d (.bl (!decide (i = j)))) := by
  have e : D.eqv (.int i) (.int j) = decide (i = j) := by
    show (i == j) = _
    exact Bool.eq_iff_iff.mpr (by simp)
  have k : ∀ i : Int, okD (.int i) = true := fun i => rfl
  unfold neD eqB
  simp [k, e]
end MM
set_option Elab.async false
set_option maxRecDepth 100000
set_option maxHeartbeats 4000000
namespace MM
open PySem
/-! ### evaluation, step by step -/
theorem ev_var {ρ : List S} {i : Nat} {x : D} (h : ρ[i]? = some (.d x)) : mVar i ρ = .ok (.d x) ρ := by
  unfold mVar
  rw [h]
theorem ev_bin {od : D → D → Option RV} {a b : Ex} {ρ ρ1 ρ2 : List S} {x y : D} {rv : RV} (h1 : a ρ = .ok (.d x) ρ1) (h2 : b ρ1 = .ok (.d y) ρ2) (h3 : od x y = some rv) : mBin od a b ρ = .ok rv ρ2 := by
  simp [mBin, mHold, h1, h2, R.bind, peekH, h3, MM.ret]
theorem ev_bin_fd {od : D → D → Option RV} {a b : Ex} {ρ ρ1 ρ2 : List S} {x y : D} {rv : RV} (h1 : a ρ = .ok (.f x) ρ1) (h2 : b ρ1 = .ok (.d y) ρ2) (h3 : od x y = some rv) : mBin od a b ρ = .ok rv ρ2 := by
  simp [mBin, mHold, h1, h2, R.bind, peekH, h3, MM.ret]
theorem ev_bin_ff {od : D → D → Option RV} {a b : Ex} {ρ ρ1 ρ2 : List S} {x y : D} {rv : RV} (h1 : a ρ = .ok (.f x) ρ1) (h2 : b ρ1 = .ok (.f y) ρ2) (h3 : od x y = some rv) : mBin od a b ρ = .ok rv ρ2 := by
  simp [mBin, mHold, h1, h2, R.bind, peekH, h3, MM.ret]
theorem ev_cb1 {g : List D → Option RV} {a : Ex} {ρ ρ1 : List S} {x : D} {rv : RV} (h1 : a ρ = .ok (.d x) ρ1) (h2 : g [x] = some rv) : mCB g (mCons a mNil) ρ = .ok rv ρ1 := by
  simp [mCB, mCons, mNil, mHold, h1, R.bind, peekHs, peekH, h2, MM.ret]
theorem ev_cb1f {g : List D → Option RV} {a : Ex} {ρ ρ1 : List S} {x : D} {rv : RV} (h1 : a ρ = .ok (.f x) ρ1) (h2 : g [x] = some rv) : mCB g (mCons a mNil) ρ = .ok rv ρ1 := by
  simp [mCB, mCons, mNil, mHold, h1, R.bind, peekHs, peekH, h2, MM.ret]
theorem ev_test {f : Ex} {ρ ρ1 : List S} {b : Bool} (h : f ρ = .ok (.d (.bl b)) ρ1) : mTestB f ρ = .ok b ρ1 := by
  simp [mTestB, h, R.bind]
theorem ev_truth {f : Ex} {ρ ρ1 : List S} {b : Bool} (h : f ρ = .ok (.d (.bl b)) ρ1) : mTruth f ρ = .ok b ρ1 := by
  simp [mTruth, mHold, h, R.bind, peekH, truthD]
theorem ev_notT {t : List S → R Bool} {ρ ρ1 : List S} {b : Bool} (h : t ρ = .ok b ρ1) : mNotT t ρ = .ok (!b) ρ1 := by
  simp [mNotT, h, R.bind]
theorem ev_slice {a : Ex} {l u : List S → R (Option Int)} {ρ ρ1 ρ2 ρ3 : List S} {x : D} {lo hi : Option Int} {rv : RV} (h1 : a ρ = .ok (.d x) ρ1) (h2 : l ρ1 = .ok lo ρ2) (h3 : u ρ2 = .ok hi ρ3) (h4 : sliceD x lo hi = some rv) : mSlice sliceD a l u ρ = .ok rv ρ3 := by
  simp [mSlice, mHold, h1, h2, h3, R.bind, peekH, h4, MM.ret]
theorem ev_part {f : Ex} {ρ ρ1 : List S} {i : Int} (h : f ρ = .ok (.d (.int i)) ρ1) : mPart f ρ = .ok (some i) ρ1 := by
  simp [mPart, h, R.bind]
theorem ev_if {t : List S → R Bool} {a b : Sm} {ρ ρ1 : List S} {c : Bool} (h : t ρ = .ok c ρ1) : sIf t a b ρ = if c = true then a ρ1 else b ρ1 := by
  simp [sIf, h, Out.of]
theorem ev_ret {f : Ex} {ρ ρ1 : List S} {rv : RV} (h : f ρ = .ok rv ρ1) : sRet f ρ = .rt rv ρ1 := by
  simp [sRet, h, Out.of]
theorem exp_nx {f : Ex} {ρ ρ1 : List S} {rv : RV} (h : f ρ = .ok rv ρ1) : sExpr f ρ = .nx ρ1 := by
  unfold sExpr
  rw [h]
  rfl
theorem ev_lst0 {ρ : List S} : mLst mNil ρ = .ok (.f (.lst [])) ρ := rfl
/-! ### texts -/
theorem ix_str {w : List Nat} {i : Nat} (hi : i < w.length) (hz : w.length ≤ sizeLine) : ixD (.str w) (.int i) = some (.d (.str [w.getD i 0])) := by
  have e : w[i]? = some w[i] := List.getElem?_eq_getElem hi
  simp [ixD, hz, L2.atI, L2.ixN, hi, List.getD_eq_getElem?_getD, e]
theorem slice_lh {w : List Nat} {i j : Nat} (hi : i ≤ j) (hj : j ≤ w.length) (hz : w.length ≤ sizeLine) : sliceD (.str w) (some (i : Int)) (some (j : Int)) = some (.d (.str ((w.drop i).take (j - i)))) := by
  have e1 : min j w.length = j := by omega
  have e2 : min i w.length = i := by omega
  simp [sliceD, hz, cutL, HT.sIx_nat, e1, e2]
theorem slice_l {w : List Nat} {i : Nat} (hi : i ≤ w.length) (hz : w.length ≤ sizeLine) : sliceD (.str w) (some (i : Int)) none = some (.d (.str (w.drop i))) := by
  have e2 : min i w.length = i := by omega
  simp [sliceD, hz, cutL, HT.sIx_nat, HT.sIx_none, e2]
  exact List.take_of_length_le (by simp)
theorem slice_h {w : List Nat} {j : Nat} (hj : j ≤ w.length) (hz : w.length ≤ sizeLine) : sliceD (.str w) none (some (j : Int)) = some (.d (.str (w.take j))) := by
  have e1 : min j w.length = j := by omega
  simp [sliceD, hz, cutL, HT.sIx_nat, HT.sIx_none, e1]
/-! ### a while that goes through -/
theorem whileM_do {α : Type} {t : List S → R Bool} {m : Sm} (st : α → List S) (μ : α → Nat) (Pd Fin : α → Prop)
    (step : ∀ x, Pd x → (t (st x) = .ok true (st x) ∧ ∃ y, m (st x) = .nx (st y) ∧ Pd y ∧ μ y < μ x) ∨ (t (st x) = .ok false (st x) ∧ Fin x)) : ∀ k x, Pd x → μ x < k → ∃ y, whileM t m k (st x) = .nx (st y) ∧ Pd y ∧ Fin y
  | 0, x, _, h => by omega
  | k + 1, x, hx, h => by
    unfold whileM
    rcases step x hx with ⟨e, y, em, hy, hl⟩ | ⟨e, hf⟩
    · obtain ⟨z, ez, h1, h2⟩ := whileM_do st μ Pd Fin step k y hy (by omega)
      refine ⟨z, ?_, h1, h2⟩
      rw [e, of_ok]
      simp only [if_true, em]
      exact ez
    · refine ⟨x, ?_, hx, hf⟩
      rw [e, of_ok]
      rfl
end MM
set_option Elab.async false
set_option maxRecDepth 100000
set_option maxHeartbeats 4000000
namespace MM
open PySem
/-! ### pure comprehensions -/
theorem set_back {ρ : List S} {v : Nat} {s t : S} (h : ρ[v]? = some s) : (ρ.set v t).set v s = ρ := by
  rw [List.set_set]
  apply List.ext_getElem?
  intro i
  by_cases z : v = i
  · subst z
    rw [List.getElem?_set_self (List.getElem?_eq_some_iff.mp h).1, h]
  · rw [List.getElem?_set_ne z]
theorem lcM_pure {v : Nat} {tt : List S → R Bool} {f : Ex} {ρ : List S} (b : D → Bool) (y : D → D) (hu : ρ[v]? = some .un) : ∀ items : List D,
    (∀ x ∈ items, tt (ρ.set v (.d x)) = .ok (b x) (ρ.set v (.d x)) ∧ (b x = true → mForce f (ρ.set v (.d x)) = .ok (y x) (ρ.set v (.d x)))) → lcM (.nm v) [v] tt f items ρ = .ok ((items.filter b).map y) ρ
  | [], _ => rfl
  | x :: r, h => by
    obtain ⟨h1, h2⟩ := h x List.mem_cons_self
    have ih := lcM_pure b y hu r fun z hz => h z (List.mem_cons_of_mem _ hz)
    have e : (Tg.nm v).put x ρ = some (ρ.set v (.d x)) := putD_at hu trivial
    have ew : wipeS (ρ.set v (.d x)) [v] = ρ := set_back hu
    unfold lcM
    rw [e]
    dsimp only
    rw [h1, bind_ok]
    cases q : b x with
    | false =>
      rw [if_neg Bool.false_ne_true, ew, ih, List.filter_cons_of_neg (by rw [q]; exact Bool.false_ne_true)]
    | true =>
      rw [if_pos rfl, h2 q, bind_ok, ew, ih, bind_ok, List.filter_cons_of_pos q]
      rfl
theorem mlc_pure {it : List S → R (List D)} {v : Nat} {tt : List S → R Bool} {f : Ex} {ρ ρ1 : List S} {items : List D} {s : S} (b : D → Bool) (y : D → D) (hi : it ρ = .ok items ρ1) (hv : ρ1[v]? = some s) (hs : s.hid = true)
    (h : ∀ x ∈ items, tt (ρ1.set v (.d x)) = .ok (b x) (ρ1.set v (.d x)) ∧ (b x = true → mForce f (ρ1.set v (.d x)) = .ok (y x) (ρ1.set v (.d x)))) (hz : items.length ≤ sizeLine) :
    mLc it (.nm v) [v] tt f ρ = .ok (.f (.lst ((items.filter b).map y))) ρ1 := by
  have hid : hidOk ρ1 [v] = true := by simp [hidOk, hv, hs]
  have hl : v < ρ1.length := (List.getElem?_eq_some_iff.mp hv).1
  have hu : (ρ1.set v .un)[v]? = some .un := List.getElem?_set_self hl
  have e1 : lcM (.nm v) [v] tt f items (wipeS ρ1 [v]) = .ok ((items.filter b).map y) (ρ1.set v .un) := lcM_pure b y hu items fun x hx => by
    rw [List.set_set]
    exact h x hx
  have hlen : ((items.filter b).map y).length ≤ sizeLine := by
    rw [List.length_map]
    exact Nat.le_trans (List.length_filter_le _ _) hz
  have eb : backW (ρ1.set v .un) ρ1 [v] = ρ1 := by
    unfold backW backW
    rw [hv]
    exact set_back hv
  unfold mLc
  rw [hi, bind_ok, if_pos hid, e1]
  show R.bind (R.ok _ _) _ = _
  rw [bind_ok, if_pos hlen, eb]
theorem force_of {f : Ex} {ρ ρ1 : List S} {x : D} (h : f ρ = .ok (.d x) ρ1) : mForce f ρ = .ok x ρ1 := by
  unfold mForce
  rw [h]
  rfl
theorem force_f {f : Ex} {ρ ρ1 : List S} {x : D} (h : f ρ = .ok (.f x) ρ1) : mForce f ρ = .ok x ρ1 := by
  unfold mForce
  rw [h]
  rfl
theorem items_of {f : Ex} {ρ ρ1 : List S} {x : D} {l : List D} (h : mForce f ρ = .ok x ρ1) (e : itemsD x = some l) : mItems f ρ = .ok l ρ1 := by
  unfold mItems
  rw [h, bind_ok, e]
/-! ### lists of flat data -/
def Flat (x : D) : Prop := x.okq = true ∧ x.dep = 0
theorem okqs_flat : ∀ l : List D, (∀ x ∈ l, Flat x) → D.okqs l = true ∧ D.deps l = 0
  | [], _ => ⟨rfl, rfl⟩
  | x :: xs, h => by
    obtain ⟨h1, h2⟩ := h x List.mem_cons_self
    obtain ⟨h3, h4⟩ := okqs_flat xs fun z hz => h z (List.mem_cons_of_mem _ hz)
    refine ⟨?_, ?_⟩
    · unfold D.okqs
      rw [h1, h3]
      rfl
    · unfold D.deps
      rw [h2, h4]
      rfl
theorem okD_flat {l : List D} (h : ∀ x ∈ l, Flat x) : okD (.lst l) = true := by
  obtain ⟨h1, h2⟩ := okqs_flat l h
  unfold okD D.okq D.dep
  rw [h1, h2]
  rfl
theorem eqv_nil {l : List D} : D.eqv (.lst l) (.lst []) = l.isEmpty := by cases l <;> rfl
theorem eqD_nil {l : List D} (h : ∀ x ∈ l, Flat x) : eqD (.lst l) (.lst []) = some (.d (.bl l.isEmpty)) := by
  have e : eqB (.lst l) (.lst []) = some (D.eqv (.lst l) (.lst [])) := by
    unfold eqB
    exact if_pos ⟨okD_flat h, rfl⟩
  unfold eqD
  rw [e, eqv_nil]
  rfl
theorem neD_nil {l : List D} (h : ∀ x ∈ l, Flat x) : neD (.lst l) (.lst []) = some (.d (.bl (!l.isEmpty))) := by
  have e : eqB (.lst l) (.lst []) = some (D.eqv (.lst l) (.lst [])) := by
    unfold eqB
    exact if_pos ⟨okD_flat h, rfl⟩
  unfold neD
  rw [e, eqv_nil]
  rfl
def Low (w : List Nat) : Prop := ∀ c ∈ w, c < 0x110000
theorem Low.flat {w : List Nat} (h : Low w) : Flat (.str w) := ⟨List.all_eq_true.mpr fun c hc => decide_eq_true (h c hc), rfl⟩
theorem Low.sub {w u : List Nat} (h : Low w) (s : ∀ c ∈ u, c ∈ w) : Low u := fun c hc => h c (s c hc)
theorem flat_int (i : Int) : Flat (.int i) := ⟨rfl, rfl⟩
theorem boolsD_map {α : Type} (g : α → Bool) : ∀ l : List α, boolsD (l.map fun x => D.bl (g x)) = some (l.map g)
  | [] => rfl
  | x :: xs => by
    show (boolsD (xs.map fun x => D.bl (g x))).map (g x :: ·) = _
    rw [boolsD_map g xs]
    rfl
theorem strsD_map : ∀ l : List (List Nat), strsD (l.map D.str) = some l
  | [] => rfl
  | x :: xs => by
    show (strsD (xs.map D.str)).map (x :: ·) = _
    rw [strsD_map xs]
    rfl
theorem joinL_nil : ∀ l : List (List Nat), TL.joinL [] l = l.flatten
  | [] => rfl
  | [x] => by simp [TL.joinL]
  | x :: y :: r => by
    have := joinL_nil (y :: r)
    simp [TL.joinL] at this ⊢
    rw [this]
theorem ev_bin_rd {od : D → D → Option RV} {a b : Ex} {ρ ρ1 ρ2 : List S} {i : Nat} {x y : D} {rv : RV} (h1 : a ρ = .ok (.r i) ρ1) (h2 : b ρ1 = .ok (.d y) ρ2) (hi : ρ2[i]? = some (.o x)) (h3 : od x y = some rv) : mBin od a b ρ = .ok rv ρ2 := by
  simp [mBin, mHold, h1, h2, R.bind, peekH, hi, h3, MM.ret]
theorem one_call {m : Fn} {f : Ex} {ρ ρ1 ρf : List S} {x : D} {rv : RV} (hf : f ρ = .ok (.d x) ρ1) (hm : m [.d x] = .rt rv ρf) (hb : backS (newOf [.d x] ρf) 0 ρ1 = ρ1) : mCall 1 m (mCons f mNil) ρ = .ok rv ρ1 := by
  simp [mCall, mCons, mNil, mHold, R.bind, hf, MM.argsOk, argOk, ownIx, argS, hm, hb, List.filterMap_cons]
theorem two_call {m : Fn} {f h : Ex} {ρ ρ1 ρ2 ρf : List S} {x y : D} {rv : RV} (hf : f ρ = .ok (.d x) ρ1) (hh : h ρ1 = .ok (.d y) ρ2) (hm : m [.d x, .d y] = .rt rv ρf) (hb : backS (newOf [.d x, .d y] ρf) 0 ρ2 = ρ2) : mCall 2 m (mCons f (mCons h mNil)) ρ = .ok rv ρ2 := by
  simp [mCall, mCons, mNil, mHold, R.bind, hf, hh, MM.argsOk, argOk, ownIx, argS, hm, hb, List.filterMap_cons]
theorem three_call {m : Fn} {f h k : Ex} {ρ ρ1 ρ2 ρ3 ρf : List S} {x y z : D} {rv : RV} (hf : f ρ = .ok (.d x) ρ1) (hh : h ρ1 = .ok (.d y) ρ2) (hk : k ρ2 = .ok (.d z) ρ3) (hm : m [.d x, .d y, .d z] = .rt rv ρf) (hb : backS (newOf [.d x, .d y, .d z] ρf) 0 ρ3 = ρ3) : mCall 3 m (mCons f (mCons h (mCons k mNil))) ρ = .ok rv ρ3 := by
  simp [mCall, mCons, mNil, mHold, R.bind, hf, hh, hk, MM.argsOk, argOk, ownIx, argS, hm, hb, List.filterMap_cons]
theorem src1i {r : List S → R (List HV)} {ρ ρ1 : List S} {j : Int} (h : r ρ = .ok [.d (.int j)] ρ1) (h1 : -1000000 ≤ j) (h2 : j ≤ 1000000) : mSrc rng1 r ρ = .ok (rngD 0 j.toNat) ρ1 := by
  have e : rng1 [.int j] = some (rngD 0 j.toNat) := by simp only [rng1, rngOk_small (i := 0) (by decide) (by decide) h1 h2, if_true]
  simp only [mSrc, h, bind_ok, forceHs, forceH, e]
theorem neD_bl {a b : Bool} : neD (.bl a) (.bl b) = some (.d (.bl (!(a == b)))) := by cases a <;> cases b <;> rfl
theorem ev_isT {T : String} {f : Ex} {ρ ρ1 : List S} {x : D} {b : Bool} (h : f ρ = .ok (.d x) ρ1) (hb : isT T x = some b) : mIsT T f ρ = .ok (.d (.bl b)) ρ1 := by
  simp [mIsT, mHold, h, R.bind, peekH, hb]
theorem cons1 {f : Ex} {ρ ρ1 : List S} {x : D} (h : f ρ = .ok (.d x) ρ1) : mCons f mNil ρ = .ok [.d x] ρ1 := by
  simp [mCons, mNil, mHold, h, R.bind]
theorem filt_last {P : Nat → Bool} {k : Nat} (hP : P k = true) : ∀ n, k ≤ n → (∀ i, k < i → i ≤ n → P i = false) → ∃ A, (List.range (n + 1)).filter P = A ++ [k]
  | 0, h, _ => by
    have : k = 0 := by omega
    subst this
    exact ⟨[], by simp [hP]⟩
  | n + 1, h, hi => by
    rw [List.range_succ, List.filter_append]
    by_cases z : k = n + 1
    · subst z
      exact ⟨_, by rw [List.filter_cons_of_pos hP, List.filter_nil]⟩
    · obtain ⟨A, e⟩ := filt_last hP n (by omega) fun i h1 h2 => hi i h1 (by omega)
      have := hi (n + 1) (by omega) (Nat.le_refl _)
      refine ⟨A, ?_⟩
      rw [e, List.filter_cons_of_neg (by rw [this]; exact Bool.false_ne_true), List.filter_nil, List.append_nil]
end MM
set_option Elab.async false
set_option maxRecDepth 100000
set_option maxHeartbeats 4000000
namespace MM
open PySem
section
variable {ρ : List S} {a b c f : Ex} {r rk : List S → R (List HV)}
@[simp] theorem u_bok {α β : Type} (x : α) (ρ : List S) (k : α → List S → R β) : (R.ok x ρ).bind k = k x ρ := rfl
@[simp] theorem u_bex {α β : Type} (e : Exn) (ρ : List S) (k : α → List S → R β) : (R.ex e ρ : R α).bind k = .ex e ρ := rfl
@[simp] theorem u_bbad {α β : Type} (k : α → List S → R β) : (R.bad : R α).bind k = .bad := rfl
@[simp] theorem u_ook {α : Type} (x : α) (ρ : List S) (k : α → List S → Out) : Out.of (R.ok x ρ) k = k x ρ := rfl
@[simp] theorem u_oex {α : Type} (e : Exn) (ρ : List S) (k : α → List S → Out) : Out.of (R.ex e ρ : R α) k = .ex e ρ := rfl
@[simp] theorem u_obad {α : Type} (k : α → List S → Out) : Out.of (R.bad : R α) k = .bad := rfl
@[simp] theorem u_var (i : Nat) : mVar i ρ = (match ρ[i]? with
  | some (.d x) => .ok (.d x) ρ
  | some (.o _) => .ok (.r i) ρ
  | some (.p _) => .ok (.r i) ρ
  | _ => .bad) := rfl
@[simp] theorem u_c (x : D) : mC x ρ = .ok (.d x) ρ := rfl
@[simp] theorem u_hold : mHold f ρ = (f ρ).bind fun rv ρ' => .ok (match rv with
  | .d x => .d x
  | .f x => .d x
  | .r i => .r i) ρ' := rfl
@[simp] theorem u_force : mForce f ρ = (f ρ).bind forceRV := rfl
@[simp] theorem u_frv_d (x : D) : forceRV (.d x) ρ = .ok x ρ := rfl
@[simp] theorem u_frv_f (x : D) : forceRV (.f x) ρ = .ok x ρ := rfl
@[simp] theorem u_frv_r (i : Nat) : forceRV (.r i) ρ = (match ρ[i]? with
    | some (.d x) => .ok x ρ
    | some (.o x) => .ok x (ρ.set i (.d x))
    | _ => .bad) := rfl
@[simp] theorem u_fh_d (x : D) : forceH (.d x) ρ = .ok x ρ := rfl
@[simp] theorem u_fh_r (i : Nat) : forceH (.r i) ρ = (match ρ[i]? with
    | some (.d x) => .ok x ρ
    | some (.o x) => .ok x (ρ.set i (.d x))
    | _ => .bad) := rfl
@[simp] theorem u_fhs0 : forceHs [] ρ = .ok [] ρ := rfl
@[simp] theorem u_fhs1 (h : HV) (hs : List HV) : forceHs (h :: hs) ρ = (forceH h ρ).bind fun x ρ1 => (forceHs hs ρ1).bind fun xs ρ2 => .ok (x :: xs) ρ2 := rfl
@[simp] theorem u_pk_d (x : D) : peekH ρ (.d x) = some x := rfl
@[simp] theorem u_pk_r (i : Nat) : peekH ρ (.r i) = (match ρ[i]? with
    | some (.d x) => some x
    | some (.o x) => some x
    | some (.p x) => some x
    | _ => none) := rfl
@[simp] theorem u_pks0 : peekHs ρ [] = some [] := rfl
@[simp] theorem u_pks1 (h : HV) (hs : List HV) : peekHs ρ (h :: hs) = (peekH ρ h).bind fun x => (peekHs ρ hs).bind fun xs => some (x :: xs) := rfl
@[simp] theorem u_ret_s (x : RV) : MM.ret (some x) ρ = .ok x ρ := rfl
@[simp] theorem u_bin (od : D → D → Option RV) : mBin od a b ρ = (mHold a ρ).bind fun ha ρ1 => (mHold b ρ1).bind fun hb ρ2 => match peekH ρ2 ha, peekH ρ2 hb with
  | some x, some y => MM.ret (od x y) ρ2
  | _, _ => .bad := rfl
@[simp] theorem u_testB : mTestB f ρ = (f ρ).bind fun rv ρ' => match rv with
  | .d (.bl b) => .ok b ρ'
  | _ => .bad := rfl
@[simp] theorem u_chain (od od' : D → D → Option RV) : mChain od od' a b c ρ = (mHold a ρ).bind fun ha ρ1 => (mHold b ρ1).bind fun hb ρ2 => match peekH ρ2 ha, peekH ρ2 hb with
  | some x, some y => (match od x y with
    | some (.d (.bl true)) => (mHold c ρ2).bind fun hc ρ3 => (match peekH ρ3 hb, peekH ρ3 hc with
      | some y', some z => MM.ret (od' y' z) ρ3
      | _, _ => .bad)
    | some (.d (.bl false)) => .ok (.d (.bl false)) ρ2
    | _ => .bad)
  | _, _ => .bad := rfl
@[simp] theorem u_un (od : D → Option RV) : mUn od a ρ = (mHold a ρ).bind fun ha ρ1 => match peekH ρ1 ha with
  | some x => MM.ret (od x) ρ1
  | _ => .bad := rfl
@[simp] theorem u_truth : mTruth f ρ = (mHold f ρ).bind fun h ρ1 => match peekH ρ1 h with
  | some x => (match truthD x with
    | some b => .ok b ρ1
    | none => .bad)
  | none => .bad := rfl
@[simp] theorem u_tr_bl (b : Bool) : truthD (.bl b) = some b := rfl
variable {t u : List S → R Bool}
@[simp] theorem u_andT : mAndT t u ρ = (t ρ).bind fun c ρ1 => if c = true then u ρ1 else .ok false ρ1 := rfl
@[simp] theorem u_orT : mOrT t u ρ = (t ρ).bind fun c ρ1 => if c = true then .ok true ρ1 else u ρ1 := rfl
@[simp] theorem u_notT : mNotT t ρ = (t ρ).bind fun c ρ1 => .ok (!c) ρ1 := rfl
@[simp] theorem u_andV : mAndV a b ρ = (mTestB a ρ).bind fun c ρ1 => if c = true then b ρ1 else .ok (.d (.bl false)) ρ1 := rfl
@[simp] theorem u_orV : mOrV a b ρ = (mTestB a ρ).bind fun c ρ1 => if c = true then .ok (.d (.bl true)) ρ1 else b ρ1 := rfl
@[simp] theorem u_notV : mNotV a ρ = (mTestB a ρ).bind fun c ρ1 => .ok (.d (.bl (!c))) ρ1 := rfl
@[simp] theorem u_if : mIf t a b ρ = (t ρ).bind fun c ρ1 => if c = true then a ρ1 else b ρ1 := rfl
@[simp] theorem u_nil : mNil ρ = .ok [] ρ := rfl
@[simp] theorem u_cons : mCons a r ρ = (mHold a ρ).bind fun h ρ1 => (r ρ1).bind fun hs ρ2 => .ok (h :: hs) ρ2 := rfl
@[simp] theorem u_tup : mTup r ρ = (r ρ).bind fun hs ρ1 => (forceHs hs ρ1).bind fun xs ρ2 => if xs.length ≤ sizeLine then .ok (.d (.tup xs)) ρ2 else .bad := rfl
@[simp] theorem u_lst : mLst r ρ = (r ρ).bind fun hs ρ1 => (forceHs hs ρ1).bind fun xs ρ2 => if xs.length ≤ sizeLine then .ok (.f (.lst xs)) ρ2 else .bad := rfl
@[simp] theorem u_cb (g : List D → Option RV) : mCB g r ρ = (r ρ).bind fun hs ρ1 => match peekHs ρ1 hs with
  | some xs => MM.ret (g xs) ρ1
  | none => .bad := rfl
@[simp] theorem u_nopart : mNoPart ρ = .ok none ρ := rfl
@[simp] theorem u_part : mPart f ρ = (f ρ).bind fun rv ρ1 => match rv with
  | .d (.int i) => .ok (some i) ρ1
  | _ => .bad := rfl
@[simp] theorem u_slice (od : D → Option Int → Option Int → Option RV) (l h : List S → R (Option Int)) : mSlice od a l h ρ = (mHold a ρ).bind fun ha ρ1 => (l ρ1).bind fun lo ρ2 => (h ρ2).bind fun hi ρ3 => match peekH ρ3 ha with
  | some x => MM.ret (od x lo hi) ρ3
  | none => .bad := rfl
@[simp] theorem u_bm (T : String) (g : D → List D → Option RV) : mBM T g a r ρ = (mHold a ρ).bind fun ha ρ1 => match peekH ρ1 ha with
  | some x0 => if isTy T x0 = true then (r ρ1).bind fun hs ρ2 => (match peekH ρ2 ha, peekHs ρ2 hs with
    | some x, some xs => MM.ret (g x xs) ρ2
    | _, _ => .bad) else .bad
  | none => .bad := rfl
@[simp] theorem u_star : mStar f r ρ = (mForce f ρ).bind fun x ρ1 => (match seqL x with
  | some l => (r ρ1).bind fun hs ρ2 => .ok (l.map HV.d ++ hs) ρ2
  | none => .bad) := rfl
@[simp] theorem u_isT (T : String) : mIsT T f ρ = (mHold f ρ).bind fun h ρ1 => match peekH ρ1 h with
  | some x => (match isT T x with
    | some b => .ok (.d (.bl b)) ρ1
    | none => .bad)
  | none => .bad := rfl
@[simp] theorem u_isC (cs : List Str) (c : Str) : mIsC cs c f ρ = (mHold f ρ).bind fun h ρ1 => match peekH ρ1 h with
  | some x => if knownD cs x = true then .ok (.d (.bl (isB c x))) ρ1 else .bad
  | none => .bad := rfl
@[simp] theorem u_fld (cs : List Str) (g : Str) : mFld cs g a ρ = (mHold a ρ).bind fun h ρ1 => match peekH ρ1 h with
  | some (.ins c es) => if cs.contains c = true then (match es.lookup g with
    | some x => .ok (.d x) ρ1
    | none => .bad) else .bad
  | _ => .bad := rfl
@[simp] theorem u_call (n : Nat) (m : Fn) : mCall n m r ρ = (r ρ).bind fun hs ρ1 => if (decide (hs.length = n) && argsOk ρ1 hs) = true then (match m (hs.map (argS ρ1)) with
  | .rt rv ρf => .ok rv (backS (newOf hs ρf) 0 ρ1)
  | .ex e ρf => .ex e (backS (newOf hs ρf) 0 ρ1)
  | .bad => .bad) else .bad := rfl
@[simp] theorem u_mapp (m : Fn) (xs : List D) : mApp m xs ρ = (match m (xs.map S.d) with
  | .rt rv _ => .ok rv ρ
  | .ex e _ => .ex e ρ
  | .bad => .bad) := rfl
@[simp] theorem u_stat (n : Nat) (c : Str) (m : Fn) : mStat n c m a r ρ = (mForce a ρ).bind fun x ρ1 => match x with
  | .cls c' => if c' = c then (r ρ1).bind fun hs ρ2 => (forceHs hs ρ2).bind fun xs ρ3 => if xs.length = n then mApp m xs ρ3 else .bad else .bad
  | _ => .bad := rfl
@[simp] theorem u_clsm (n : Nat) (c : Str) (m : Fn) : mClsM n c m a r ρ = (mForce a ρ).bind fun x ρ1 => match x with
  | .cls c' => if c' = c then (r ρ1).bind fun hs ρ2 => (forceHs hs ρ2).bind fun xs ρ3 => if xs.length + 1 = n then mApp m (.cls c :: xs) ρ3 else .bad else .bad
  | _ => .bad := rfl
@[simp] theorem u_argS_d (x : D) : argS ρ (.d x) = .d x := rfl
@[simp] theorem u_argS_r (i : Nat) : argS ρ (.r i) = (match ρ[i]? with
    | some (.d x) => .d x
    | some (.o x) => .p x
    | some (.p x) => .p x
    | _ => .un) := rfl
@[simp] theorem u_argOk_d (x : D) : argOk ρ (.d x) = true := rfl
@[simp] theorem u_argOk_r (i : Nat) : argOk ρ (.r i) = (match ρ[i]? with
    | some (.d _) => true
    | some (.o _) => true
    | some (.p _) => true
    | _ => false) := rfl
@[simp] theorem u_ownIx_d (x : D) : ownIx ρ (.d x) = none := rfl
@[simp] theorem u_ownIx_r (i : Nat) : ownIx ρ (.r i) = (match ρ[i]? with
    | some (.o _) => some i
    | some (.p _) => some i
    | _ => none) := rfl
@[simp] theorem u_argsOk (hs : List HV) : MM.argsOk ρ hs = (hs.all (argOk ρ) && decide (hs.filterMap (ownIx ρ)).Nodup) := rfl
@[simp] theorem u_newOf0 (s : List S) (j : Nat) : newOf [] s j = none := rfl
theorem newOf_data : ∀ (xs : List D) (s : List S) (j : Nat), newOf (xs.map HV.d) s j = none
  | [], _, _ => rfl
  | _ :: _, [], _ => rfl
  | x :: xs, s :: ss, j => newOf_data xs ss j
theorem backS_none : ∀ (ρ : List S) (k : Nat), backS (fun _ => none) k ρ = ρ
  | [], _ => rfl
  | s :: ss, k => by
    unfold backS
    rw [backS_none ss (k + 1)]
    cases s <;> rfl
variable {m m1 m2 : Sm}
@[simp] theorem u_next : sNext ρ = .nx ρ := rfl
@[simp] theorem u_sret : sRet f ρ = Out.of (f ρ) fun rv ρ1 => .rt rv ρ1 := rfl
@[simp] theorem u_sretN : sRetN ρ = .rt (.d .non) ρ := rfl
@[simp] theorem u_sexpr : sExpr f ρ = Out.of (f ρ) fun _ ρ1 => .nx ρ1 := rfl
@[simp] theorem u_sif : sIf t m1 m2 ρ = Out.of (t ρ) fun c ρ1 => if c = true then m1 ρ1 else m2 ρ1 := rfl
@[simp] theorem u_seq : sSeq m1 m2 ρ = (match m1 ρ with
  | .nx ρ1 => m2 ρ1
  | o => o) := rfl
@[simp] theorem u_nxO_s (ρ : List S) : nxO (some ρ) = .nx ρ := rfl
@[simp] theorem u_set (i : Nat) : sSet i f ρ = Out.of (f ρ) fun rv ρ1 => nxO (putRV i rv ρ1) := rfl
@[simp] theorem u_putD (i : Nat) (x : D) : putD i x ρ = (match ρ[i]? with
  | some (.p _) => none
  | some _ => some (ρ.set i (.d x))
  | none => none) := rfl
@[simp] theorem u_putRV_d (i : Nat) (x : D) : putRV i (.d x) ρ = putD i x ρ := rfl
@[simp] theorem u_putRV_f (i : Nat) (x : D) : putRV i (.f x) ρ = (match ρ[i]? with
    | some (.p _) => none
    | some _ => some (ρ.set i (.o x))
    | none => none) := rfl
@[simp] theorem u_putRV_r (i j : Nat) : putRV i (.r j) ρ = (match ρ[j]? with
    | some (.d x) => putD i x ρ
    | some (.o x) => putD i x (ρ.set j (.d x))
    | _ => none) := rfl
@[simp] theorem u_asg (t : Tg) : sAsg t f ρ = Out.of (mForce f ρ) fun x ρ1 => nxO (t.put x ρ1) := rfl
@[simp] theorem u_put_nm (i : Nat) (x : D) : (Tg.nm i).put x ρ = putD i x ρ := by unfold Tg.put; rfl
@[simp] theorem u_puts0 : Tg.puts [] [] ρ = some ρ := by unfold Tg.puts; rfl
@[simp] theorem u_puts1 (t : Tg) (ts : List Tg) (x : D) (xs : List D) : Tg.puts (t :: ts) (x :: xs) ρ = (t.put x ρ).bind fun ρ1 => Tg.puts ts xs ρ1 := by
  conv => lhs; unfold Tg.puts
@[simp] theorem u_put_tp (l : List Tg) (xs : List D) : (Tg.tp l).put (.tup xs) ρ = if xs.length = l.length then Tg.puts l xs ρ else none := by
  conv => lhs; unfold Tg.put
@[simp] theorem u_put_tl (l : List Tg) (xs : List D) : (Tg.tp l).put (.lst xs) ρ = if xs.length = l.length then Tg.puts l xs ρ else none := by
  conv => lhs; unfold Tg.put
@[simp] theorem u_items : mItems f ρ = (mForce f ρ).bind fun x ρ1 => match itemsD x with
  | some l => .ok l ρ1
  | none => .bad := rfl
@[simp] theorem u_yes : mYes ρ = .ok true ρ := rfl
theorem fn_eval {N : Nat} {b : Sm} {ss : List S} (ρ0 : List S) (h0 : ss ++ List.replicate (N - ss.length) .un = ρ0) {rv : RV} {ρ1 : List S} (h : b ρ0 = .rt rv ρ1) {rv' : RV} (hr : retv rv ρ1 = some rv') : fnM N b ss = .rt rv' ρ1 := by
  unfold fnM
  rw [h0, h]
  dsimp only
  rw [hr]
theorem fn_evalN {N : Nat} {b : Sm} {ss : List S} (ρ0 : List S) (h0 : ss ++ List.replicate (N - ss.length) .un = ρ0) {ρ1 : List S} (h : b ρ0 = .nx ρ1) : fnM N b ss = .rt (.d .non) ρ1 := by
  unfold fnM
  rw [h0, h]
theorem fn_evalX {N : Nat} {b : Sm} {ss : List S} (ρ0 : List S) (h0 : ss ++ List.replicate (N - ss.length) .un = ρ0) {e : Exn} {ρ1 : List S} (h : b ρ0 = .ex e ρ1) : fnM N b ss = .ex e ρ1 := by
  unfold fnM
  rw [h0, h]
end
/-! ### comprehensions with any target that is put through -/
theorem wipe_set_hid {ρ : List S} {vs : List Nat} : ∀ i ∈ vs, ∀ s : S, wipeS (ρ.set i s) vs = wipeS ρ vs := fun i hi s => by
  apply List.ext_getElem?
  intro j
  rw [wipeS_get, wipeS_get, List.length_set]
  split
  · rfl
  · rename_i h
    by_cases e : i = j
    · subst e
      have hj : ¬ i < ρ.length := fun z => h ⟨hi, z⟩
      rw [List.getElem?_eq_none (by simpa using hj), List.getElem?_eq_none (by omega)]
    · rw [List.getElem?_set_ne e]
/-- items x, each put by t to st x; kept if b x; made y x -/
theorem lcM_gen {t : Tg} {vs : List Nat} {tt : List S → R Bool} {f : Ex} {ρ : List S} (b : D → Bool) (y : D → D) (st st' : D → List S) (hw : ∀ x, wipeS (st' x) vs = ρ ∧ wipeS (st x) vs = ρ) : ∀ items : List D,
    (∀ x ∈ items, t.put x ρ = some (st x) ∧ tt (st x) = .ok (b x) (st x) ∧ (b x = true → mForce f (st x) = .ok (y x) (st' x))) → lcM t vs tt f items ρ = .ok ((items.filter b).map y) ρ
  | [], _ => rfl
  | x :: r, h => by
    obtain ⟨h0, h1, h2⟩ := h x List.mem_cons_self
    have ih := lcM_gen (f := f) b y st st' hw r fun z hz => h z (List.mem_cons_of_mem _ hz)
    unfold lcM
    rw [h0]
    dsimp only
    rw [h1, bind_ok]
    cases q : b x with
    | false =>
      rw [if_neg Bool.false_ne_true, (hw x).2, ih, List.filter_cons_of_neg (by rw [q]; exact Bool.false_ne_true)]
    | true =>
      rw [if_pos rfl, h2 q, bind_ok, (hw x).1, ih, bind_ok, List.filter_cons_of_pos q]
      rfl
end MM
set_option Elab.async false
set_option maxRecDepth 100000
set_option maxHeartbeats 4000000
namespace MM
open PySem
/-! ### expressions that leave the state as it is -/
section
variable {ρ : List S} {a b c f : Ex} {r rk : List S → R (List HV)} {x y z : D} {xs ys : List D} {rv : RV}
/-- the value as data -/
def Hd (f : Ex) (ρ : List S) (x : D) : Prop := mHold f ρ = .ok (.d x) ρ
def Hds (r : List S → R (List HV)) (ρ : List S) (xs : List D) : Prop := r ρ = .ok (xs.map HV.d) ρ
/-- the function's answer -/
def Ans (m : Fn) (xs : List D) (rv : RV) : Prop := ∃ ρ, m (xs.map S.d) = .rt rv ρ
theorem hd_d (h : f ρ = .ok (.d x) ρ) : Hd f ρ x := by
  unfold Hd mHold
  rw [h]
  rfl
theorem hd_f (h : f ρ = .ok (.f x) ρ) : Hd f ρ x := by
  unfold Hd mHold
  rw [h]
  rfl
theorem Hd.force (h : Hd f ρ x) : mForce f ρ = .ok x ρ := by
  unfold Hd mHold at h
  unfold mForce
  cases q : f ρ with
  | bad => rw [q] at h; cases h
  | ex e ρ1 => rw [q] at h; cases h
  | ok rv ρ1 =>
    rw [q] at h
    cases rv with
    | d y => cases h; rfl
    | f y => cases h; rfl
    | r i => cases h
theorem hd_f_any {ρ' : List S} (h : f ρ = .ok (.f x) ρ') : mForce f ρ = .ok x ρ' := by
  unfold mForce
  rw [h]
  rfl
theorem force_all (ρ : List S) : ∀ xs : List D, forceHs (xs.map HV.d) ρ = .ok xs ρ
  | [] => rfl
  | x :: xs => by simp [force_all ρ xs]
theorem peek_all (ρ : List S) : ∀ xs : List D, peekHs ρ (xs.map HV.d) = some xs
  | [] => rfl
  | x :: xs => by simp [peek_all ρ xs]
theorem args_all (ρ : List S) : ∀ xs : List D, MM.argsOk ρ (xs.map HV.d) = true := fun xs => by
  have h1 : (xs.map HV.d).all (argOk ρ) = true := by simp [List.all_map]
  have h2 : (xs.map HV.d).filterMap (ownIx ρ) = [] := by
    induction xs with
    | nil => rfl
    | cons x xs ih => simp
  show ((xs.map HV.d).all (argOk ρ) && decide ((xs.map HV.d).filterMap (ownIx ρ)).Nodup) = true
  rw [h1, h2]
  rfl
theorem argS_all (ρ : List S) : ∀ xs : List D, (xs.map HV.d).map (argS ρ) = xs.map S.d
  | [] => rfl
  | x :: xs => by
    rw [List.map_cons, List.map_cons, List.map_cons, argS_all ρ xs]
    rfl
theorem back_all (xs : List D) (ρf ρ : List S) : backS (newOf (xs.map HV.d) ρf) 0 ρ = ρ := by
  have : newOf (xs.map HV.d) ρf = fun _ => none := funext fun j => newOf_data xs ρf j
  rw [this, backS_none]
theorem Hds.nil : Hds mNil ρ [] := rfl
theorem Hds.cons (h : Hd f ρ x) (k : Hds r ρ xs) : Hds (mCons f r) ρ (x :: xs) := by
  unfold Hds at *
  unfold mCons
  unfold Hd at h
  rw [h]
  show ((r ρ).bind fun hs ρ2 => _) = _
  rw [k]
  rfl
theorem Hds.star (h : Hd f ρ x) (e : seqL x = some ys) (k : Hds r ρ xs) : Hds (mStar f r) ρ (ys ++ xs) := by
  unfold Hds at *
  unfold mStar
  rw [h.force, bind_ok]
  rw [e]
  dsimp only
  rw [k, bind_ok, List.map_append]
theorem Hds.one (h : Hd f ρ x) : Hds (mCons f mNil) ρ [x] := .cons h .nil
theorem Hds.two (h : Hd f ρ x) (k : Hd a ρ y) : Hds (mCons f (mCons a mNil)) ρ [x, y] := .cons h (.one k)
theorem Hds.three (h : Hd f ρ x) (k : Hd a ρ y) (l : Hd b ρ z) : Hds (mCons f (mCons a (mCons b mNil))) ρ [x, y, z] := .cons h (.two k l)
theorem p_var {i : Nat} (h : ρ[i]? = some (.d x)) : Hd (mVar i) ρ x := hd_d (ev_var h)
theorem p_c : Hd (mC x) ρ x := rfl
theorem p_bin {od : D → D → Option RV} (h : Hd a ρ x) (k : Hd b ρ y) (e : od x y = some rv) : mBin od a b ρ = .ok rv ρ := by
  unfold Hd at *
  simp [-u_hold, h, k, e]
theorem p_un {od : D → Option RV} (h : Hd a ρ x) (e : od x = some rv) : mUn od a ρ = .ok rv ρ := by
  unfold Hd at *
  simp [-u_hold, h, e]
theorem p_cb {g : List D → Option RV} (h : Hds r ρ xs) (e : g xs = some rv) : mCB g r ρ = .ok rv ρ := by
  unfold Hds at *
  simp [-u_hold, h, peek_all, e]
theorem p_tup (h : Hds r ρ xs) (e : xs.length ≤ sizeLine) : mTup r ρ = .ok (.d (.tup xs)) ρ := by
  unfold Hds at *
  simp [-u_hold, h, force_all, e]
theorem p_lst (h : Hds r ρ xs) (e : xs.length ≤ sizeLine) : mLst r ρ = .ok (.f (.lst xs)) ρ := by
  unfold Hds at *
  simp [-u_hold, h, force_all, e]
theorem p_call {n : Nat} {m : Fn} (h : Hds r ρ xs) (hn : xs.length = n) (e : Ans m xs rv) : mCall n m r ρ = .ok rv ρ := by
  obtain ⟨ρf, e⟩ := e
  unfold Hds at h
  unfold mCall
  rw [h, bind_ok]
  rw [args_all, argS_all, e]
  dsimp only
  rw [back_all]
  simp [hn]
theorem p_app {m : Fn} (e : Ans m xs rv) : mApp m xs ρ = .ok rv ρ := by
  obtain ⟨ρf, e⟩ := e
  unfold mApp
  rw [e]
theorem p_slice {l u : List S → R (Option Int)} {lo hi : Option Int} (h : Hd a ρ x) (h1 : l ρ = .ok lo ρ) (h2 : u ρ = .ok hi ρ) (e : sliceD x lo hi = some rv) : mSlice sliceD a l u ρ = .ok rv ρ := by
  unfold Hd at h
  simp [-u_hold, h, h1, h2, e]
theorem p_part {i : Int} (h : f ρ = .ok (.d (.int i)) ρ) : mPart f ρ = .ok (some i) ρ := by simp [h]
theorem p_test {t : Bool} (h : f ρ = .ok (.d (.bl t)) ρ) : mTestB f ρ = .ok t ρ := ev_test h
theorem p_truth {t : Bool} (h : Hd f ρ x) (e : truthD x = some t) : mTruth f ρ = .ok t ρ := by
  unfold Hd at h
  simp [-u_hold, h, e]
theorem p_items (h : Hd f ρ x) (e : itemsD x = some xs) : mItems f ρ = .ok xs ρ := by
  unfold mItems
  rw [h.force, bind_ok]
  rw [e]
theorem p_src {d : List D → Option (List D)} (h : Hds r ρ xs) (e : d xs = some ys) : mSrc d r ρ = .ok ys ρ := by
  unfold Hds at h
  unfold mSrc
  rw [h, bind_ok, force_all, bind_ok]
  rw [e]
theorem p_fld {cs : List Str} {g k : Str} {es : List (Str × D)} (h : Hd a ρ (.ins k es)) (hc : cs.contains k = true) (e : es.lookup g = some x) : mFld cs g a ρ = .ok (.d x) ρ := by
  unfold Hd at h
  unfold mFld
  rw [h, bind_ok]
  dsimp only [peekH]
  rw [if_pos hc, e]
theorem p_isC {cs : List Str} {k : Str} (h : Hd f ρ x) (e : knownD cs x = true) : mIsC cs k f ρ = .ok (.d (.bl (isB k x))) ρ := by
  unfold Hd at h
  unfold mIsC
  rw [h, bind_ok]
  dsimp only [peekH]
  rw [if_pos e]
theorem p_isT {T : String} {t : Bool} (h : Hd f ρ x) (e : isT T x = some t) : mIsT T f ρ = .ok (.d (.bl t)) ρ := by
  unfold Hd at h
  simp [-u_hold, h, e]
theorem p_bm {T : String} {g : D → List D → Option RV} (h : Hd a ρ x) (k : Hds r ρ xs) (ty : isTy T x = true) (e : g x xs = some rv) : mBM T g a r ρ = .ok rv ρ := by
  unfold Hd at h
  unfold Hds at k
  simp [-u_hold, h, k, ty, peek_all, e]
theorem p_chain {od od' : D → D → Option RV} (h : Hd a ρ x) (k : Hd b ρ y) (e : od x y = some (.d (.bl true))) (l : Hd c ρ z) (e' : od' y z = some rv) : mChain od od' a b c ρ = .ok rv ρ := by
  unfold Hd at *
  simp [-u_hold, h, k, l, e, e']
/-! ### own ways -/
theorem p_inv {own : Own} {k : Str} {m : Fn} {es : List (Str × D)} (h : Hd a ρ (.ins k es)) (ho : ownAt own k = some m) (e : Ans m [.ins k es] rv) : mInv own a ρ = .ok rv ρ := by
  unfold mInv
  rw [h.force, bind_ok]
  dsimp only
  rw [ho]
  exact p_app e
theorem p_disp {ok : Str → D → Bool} {own : Own} {std : D → D → Option RV} {post : RV → Option RV} {k : Str} {m : Fn} {es : List (Str × D)} {rv' : RV} (h : Hd a ρ (.ins k es)) (h2 : Hd b ρ y) (ho : ownAt own k = some m) (hk : ok k y = true) (e : Ans m [.ins k es, y] rv) (hp : post rv = some rv') : mDisp ok own std post a b ρ = .ok rv' ρ := by
  unfold Hd at *
  unfold mDisp
  rw [h, bind_ok, h2, bind_ok]
  dsimp only [peekH]
  rw [show forceHs [HV.d (.ins k es), HV.d y] ρ = .ok [.ins k es, y] ρ from rfl, bind_ok]
  dsimp only
  rw [ho]
  dsimp only
  rw [if_pos hk, p_app e, bind_ok, hp]
  rfl
theorem p_binO {od : D → D → Option RV} {own : Own} {k : Str} {m : Fn} {es es' : List (Str × D)} (h : Hd a ρ (.ins k es)) (h2 : Hd b ρ (.ins k es')) (ho : ownAt own k = some m) (e : Ans m [.ins k es, .ins k es'] rv) : mBinO od own a b ρ = .ok rv ρ := p_disp h h2 ho (decide_eq_true rfl) e rfl
theorem p_eqO {cs : List Str} {own : Own} {k : Str} {m : Fn} {es : List (Str × D)} (h : Hd a ρ (.ins k es)) (h2 : Hd b ρ y) (ho : ownAt own k = some m) (hk : knownD cs y = true) (e : Ans m [.ins k es, y] rv) : mEqO cs own a b ρ = .ok rv ρ := p_disp h h2 ho hk e rfl
theorem p_neO {cs : List Str} {own : Own} {k : Str} {m : Fn} {es : List (Str × D)} {t : Bool} (h : Hd a ρ (.ins k es)) (h2 : Hd b ρ y) (ho : ownAt own k = some m) (hk : knownD cs y = true) (e : Ans m [.ins k es, y] (.d (.bl t))) : mNeO cs own a b ρ = .ok (.d (.bl !t)) ρ := p_disp h h2 ho hk e rfl
theorem p_meth {n : Nat} {nm k : Str} {own : Own} {m : Fn} {es : List (Str × D)} (h : Hd a ρ (.ins k es)) (ho : ownAt own k = some m) (hl : es.lookup nm = none) (hr : Hds r ρ xs) (hn : xs.length + 1 = n) (e : Ans m (.ins k es :: xs) rv) : mMethO n nm own a r ρ = .ok rv ρ := by
  unfold Hds at hr
  unfold mMethO
  rw [h.force, bind_ok]
  dsimp only
  rw [ho]
  dsimp only
  rw [if_pos (by rw [hl]; rfl), hr, bind_ok, force_all, bind_ok, if_pos hn]
  exact p_app e
theorem p_prop {k : Str} {own : Own} {m : Fn} {es : List (Str × D)} (h : Hd a ρ (.ins k es)) (ho : ownAt own k = some m) (e : Ans m [.ins k es] rv) : mPropO own a ρ = .ok rv ρ := by
  obtain ⟨ρf, e⟩ := e
  unfold mPropO
  rw [h.force, bind_ok]
  dsimp only
  rw [ho]
  dsimp only
  rw [show m [S.d (.ins k es)] = .rt rv ρf from e]
theorem p_stat {n : Nat} {k : Str} {m : Fn} (h : Hd a ρ (.cls k)) (hr : Hds r ρ xs) (hn : xs.length = n) (e : Ans m xs rv) : mStat n k m a r ρ = .ok rv ρ := by
  unfold Hds at hr
  unfold mStat
  rw [h.force, bind_ok]
  dsimp only
  rw [if_pos rfl, hr, bind_ok, force_all, bind_ok, if_pos hn]
  exact p_app e
theorem p_clsm {n : Nat} {k : Str} {m : Fn} (h : Hd a ρ (.cls k)) (hr : Hds r ρ xs) (hn : xs.length + 1 = n) (e : Ans m (.cls k :: xs) rv) : mClsM n k m a r ρ = .ok rv ρ := by
  unfold Hds at hr
  unfold mClsM
  rw [h.force, bind_ok]
  dsimp only
  rw [if_pos rfl, hr, bind_ok, force_all, bind_ok, if_pos hn]
  exact p_app e
theorem p_statF {n : Nat} {k : Str} {m : Fn} {ρ' : List S} {hs : List HV} (h : Hd a ρ (.cls k)) (hr : r ρ = .ok hs ρ) (hf : forceHs hs ρ = .ok xs ρ') (hn : xs.length = n) (e : Ans m xs rv) : mStat n k m a r ρ = .ok rv ρ' := by
  unfold mStat
  rw [h.force, bind_ok]
  dsimp only
  rw [if_pos rfl, hr, bind_ok, hf, bind_ok, if_pos hn]
  exact p_app e
/-- what an __init__ makes of the empty instance -/
def Made (m : Fn) (k : Str) (xs : List D) (y : D) : Prop := ∃ ρf, m (S.p (.ins k []) :: xs.map S.d) = .rt (.d .non) ρf ∧ ρf[0]? = some (S.p y)
theorem p_make {n : Nat} {k : Str} {m : Fn} {dv : List D} (hr : Hds r ρ xs) (hn : (xs ++ dv).length + 1 = n) (e : Made m k (xs ++ dv) y) : mMake n k m dv r ρ = .ok (.f y) ρ := by
  obtain ⟨ρf, e1, e2⟩ := e
  unfold Hds at hr
  unfold mMake
  rw [hr, bind_ok, force_all, bind_ok, if_pos hn, e1]
  dsimp only
  rw [e2]
theorem p_makeK {n n1 n2 : Nat} {k : Str} {m : Fn} (hr : Hds r ρ xs) (hk : Hds rk ρ ys) (hn : xs.length + ys.length + 1 = n) (h1 : xs.length = n1) (h2 : ys.length = n2) (e : Made m k (xs ++ ys) y) : mMakeK n k m n1 n2 r rk ρ = .ok (.f y) ρ := by
  obtain ⟨ρf, e1, e2⟩ := e
  unfold Hds at hr hk
  unfold mMakeK
  rw [hr, bind_ok, hk, bind_ok, ← List.map_append, force_all, bind_ok, if_pos ⟨by rw [List.length_append]; exact hn, by rw [List.length_map]; exact h1, by rw [List.length_map]; exact h2⟩, e1]
  dsimp only
  rw [e2]
/-! ### statements -/
variable {m1 m2 : Sm} {ρ1 : List S} {o : Out} {t u : List S → R Bool} {q : Bool}
theorem q_seq (h : m1 ρ = .nx ρ1) (k : m2 ρ1 = o) : sSeq m1 m2 ρ = o := by rw [seq_nx h, k]
theorem q_seqR {rv : RV} (h : m1 ρ = .rt rv ρ1) : sSeq m1 m2 ρ = .rt rv ρ1 := by
  rw [u_seq, h]
theorem q_ifT (h : t ρ = .ok true ρ1) (k : m1 ρ1 = o) : sIf t m1 m2 ρ = o := by rw [ev_if h, if_pos rfl, k]
theorem q_ifF (h : t ρ = .ok false ρ1) (k : m2 ρ1 = o) : sIf t m1 m2 ρ = o := by rw [ev_if h, if_neg Bool.false_ne_true, k]
theorem q_next : sNext ρ = .nx ρ := rfl
theorem q_set {i : Nat} (h : f ρ = .ok rv ρ) (k : putRV i rv ρ = some ρ1) : sSet i f ρ = .nx ρ1 := by
  rw [u_set, h]
  show nxO (putRV i rv ρ) = _
  rw [k]
  rfl
theorem q_exp (h : f ρ = .ok rv ρ) : sExpr f ρ = .nx ρ := exp_nx h
theorem p_orF (h : t ρ = .ok false ρ) (k : u ρ = .ok q ρ) : mOrT t u ρ = .ok q ρ := by
  rw [u_orT, h]
  exact k
theorem p_orT (h : t ρ = .ok true ρ) : mOrT t u ρ = .ok true ρ := by
  rw [u_orT, h]
  rfl
theorem p_andT (h : t ρ = .ok true ρ) (k : u ρ = .ok q ρ) : mAndT t u ρ = .ok q ρ := by
  rw [u_andT, h]
  exact k
theorem p_andF (h : t ρ = .ok false ρ) : mAndT t u ρ = .ok false ρ := by
  rw [u_andT, h]
  rfl
theorem p_notF (h : t ρ = .ok true ρ) : mNotT t ρ = .ok false ρ := by
  rw [u_notT, h]
  rfl
theorem p_notT (h : t ρ = .ok false ρ) : mNotT t ρ = .ok true ρ := by
  rw [u_notT, h]
  rfl
theorem p_andVT (h : mTestB a ρ = .ok true ρ) (k : b ρ = .ok rv ρ) : mAndV a b ρ = .ok rv ρ := by
  rw [u_andV, h]
  exact k
theorem p_ifT (h : t ρ = .ok true ρ) (k : a ρ = .ok rv ρ) : mIf t a b ρ = .ok rv ρ := by
  rw [u_if, h]
  exact k
theorem p_ifF (h : t ρ = .ok false ρ) (k : b ρ = .ok rv ρ) : mIf t a b ρ = .ok rv ρ := by
  rw [u_if, h]
  exact k
end
/-! ### comprehensions -/
theorem lcM_map {α : Type} {t : Tg} {vs : List Nat} {tt : List S → R Bool} {f : Ex} {ρ : List S} (h : α → D) (b : α → Bool) (y : α → D) (st st' : α → List S) (hw : ∀ x, wipeS (st' x) vs = ρ ∧ wipeS (st x) vs = ρ) : ∀ l : List α,
    (∀ x ∈ l, t.put (h x) ρ = some (st x) ∧ tt (st x) = .ok (b x) (st x) ∧ (b x = true → mForce f (st x) = .ok (y x) (st' x))) → lcM t vs tt f (l.map h) ρ = .ok ((l.filter b).map y) ρ
  | [], _ => rfl
  | x :: r, e => by
    obtain ⟨h0, h1, h2⟩ := e x List.mem_cons_self
    have ih := lcM_map (f := f) h b y st st' hw r fun z hz => e z (List.mem_cons_of_mem _ hz)
    rw [List.map_cons]
    unfold lcM
    rw [h0]
    dsimp only
    rw [h1, bind_ok]
    cases q : b x with
    | false =>
      rw [if_neg Bool.false_ne_true, (hw x).2, ih, List.filter_cons_of_neg (by rw [q]; exact Bool.false_ne_true)]
    | true =>
      rw [if_pos rfl, h2 q, bind_ok, (hw x).1, ih, bind_ok, List.filter_cons_of_pos q]
      rfl
theorem mlc_map {α : Type} {it : List S → R (List D)} {t : Tg} {vs : List Nat} {tt : List S → R Bool} {f : Ex} {ρ0 ρ ρw : List S} (h : α → D) (b : α → Bool) (y : α → D) (st : α → List S) (l : List α) (hi : it ρ0 = .ok (l.map h) ρ) (hh : hidOk ρ vs = true) (ew : wipeS ρ vs = ρw) (eb : backW ρw ρ vs = ρ) (hw : ∀ x, wipeS (st x) vs = ρw) (hl : l.length ≤ sizeLine)
    (e : ∀ x ∈ l, t.put (h x) ρw = some (st x) ∧ tt (st x) = .ok (b x) (st x) ∧ (b x = true → Hd f (st x) (y x))) : mLc it t vs tt f ρ0 = .ok (.f (.lst ((l.filter b).map y))) ρ := by
  unfold mLc
  rw [hi, bind_ok, if_pos hh, ew, lcM_map h b y st st (fun x => ⟨hw x, hw x⟩) l fun x hx => ⟨(e x hx).1, (e x hx).2.1, fun q => ((e x hx).2.2 q).force⟩]
  show (if _ then R.ok _ (backW ρw ρ vs) else .bad) = _
  rw [eb, if_pos]
  rw [List.length_map]
  have := List.length_filter_le b l
  omega
/-- every item is kept -/
theorem mlc_all {α : Type} {it : List S → R (List D)} {t : Tg} {vs : List Nat} {f : Ex} {ρ0 ρ ρw : List S} (h : α → D) (y : α → D) (st : α → List S) (l : List α) (hi : it ρ0 = .ok (l.map h) ρ) (hh : hidOk ρ vs = true) (ew : wipeS ρ vs = ρw) (eb : backW ρw ρ vs = ρ) (hw : ∀ x, wipeS (st x) vs = ρw) (hl : l.length ≤ sizeLine)
    (e : ∀ x ∈ l, t.put (h x) ρw = some (st x) ∧ Hd f (st x) (y x)) : mLc it t vs mYes f ρ0 = .ok (.f (.lst (l.map y))) ρ := by
  have := mlc_map (tt := mYes) (f := f) h (fun _ => true) y st l hi hh ew eb hw hl fun x hx => ⟨(e x hx).1, rfl, fun _ => (e x hx).2⟩
  rwa [List.filter_eq_self.mpr fun _ _ => rfl] at this
/-- the items one behind the other, each changing the state -/
theorem lcM_go {t : Tg} {vs : List Nat} {f : Ex} (st : Nat → List S) (y : Nat → D) : ∀ (items : List D) (k : Nat),
    (∀ i x, items[i]? = some x → ∃ ρ1 ρ2, t.put x (st (k + i)) = some ρ1 ∧ mForce f ρ1 = .ok (y (k + i)) ρ2 ∧ wipeS ρ2 vs = st (k + i + 1)) → lcM t vs mYes f items (st k) = .ok ((List.range items.length).map fun i => y (k + i)) (st (k + items.length))
  | [], _, _ => rfl
  | x :: r, k, e => by
    obtain ⟨ρ1, ρ2, h0, h1, h2⟩ := e 0 x rfl
    have ih := lcM_go (f := f) st y r (k + 1) fun i z hz => by
      have := e (i + 1) z (by simpa using hz)
      rwa [show k + (i + 1) = k + 1 + i by omega] at this
    unfold lcM
    rw [show st k = st (k + 0) from rfl, h0]
    dsimp only
    rw [show mYes ρ1 = .ok true ρ1 from rfl, bind_ok, if_pos rfl, h1, bind_ok, h2, ih, bind_ok]
    congr 1
    · rw [List.length_cons, List.range_succ_eq_map, List.map_cons, List.map_map]
      congr 1
      refine List.map_congr_left fun i _ => ?_
      show y (k + 1 + i) = y (k + (i + 1))
      congr 1
      omega
    · rw [List.length_cons]
      congr 1
      omega
end MM
set_option Elab.async false
set_option maxRecDepth 100000
set_option maxHeartbeats 4000000
namespace MM
open PySem
/-! ### calls that draw from a slot's own tray -/
def nwS (o : Option D) (s : S) : S := match s with
  | .o x => .o (o.getD x)
  | .p x => .p (o.getD x)
  | s => s
theorem backS_at (nw : Nat → Option D) : ∀ (ρ : List S) (k j : Nat), (backS nw k ρ)[j]? = (ρ[j]?).map (nwS (nw (k + j)))
  | [], _, _ => rfl
  | s :: ss, k, 0 => by
    unfold backS
    cases s <;> rfl
  | s :: ss, k, j + 1 => by
    have := backS_at nw ss (k + 1) j
    unfold backS
    rw [List.getElem?_cons_succ, List.getElem?_cons_succ, this, show k + 1 + j = k + (j + 1) by omega]
theorem nwS_none (s : S) : nwS none s = s := by cases s <;> rfl
section
variable {ρ : List S} {x x' : D} {s : S} {i n : Nat} {m : Fn} {r : List S → R (List HV)} {xs : List D} {rv : RV} {ρf : List S}
theorem p_draw (h0 : ρ[i]? = some s) (hs : s = .p x ∨ s = .o x) (hr : Hds r ρ xs) (hn : xs.length + 1 = n) (e : m (.p x :: xs.map S.d) = .rt rv (.p x' :: ρf)) : mCall n m (mCons (mVar i) r) ρ = .ok rv (ρ.set i (nwS (some x') s)) := by
  have v : mVar i ρ = .ok (.r i) ρ := by
    rw [u_var, h0]
    rcases hs with rfl | rfl <;> rfl
  have a1 : argS ρ (.r i) = .p x := by
    rw [u_argS_r, h0]
    rcases hs with rfl | rfl <;> rfl
  have a2 : argOk ρ (.r i) = true := by
    rw [u_argOk_r, h0]
    rcases hs with rfl | rfl <;> rfl
  have a3 : ownIx ρ (.r i) = some i := by
    rw [u_ownIx_r, h0]
    rcases hs with rfl | rfl <;> rfl
  have ea : MM.argsOk ρ (.r i :: xs.map HV.d) = true := by
    have h1 : (xs.map HV.d).all (argOk ρ) = true := by simp [List.all_map]
    have h2 : (xs.map HV.d).filterMap (ownIx ρ) = [] := by simp
    show (((.r i :: xs.map HV.d).all (argOk ρ)) && decide ((HV.r i :: xs.map HV.d).filterMap (ownIx ρ)).Nodup) = true
    rw [List.all_cons, h1, a2, List.filterMap_cons, a3]
    dsimp only
    rw [h2]
    rfl
  have eb : backS (newOf (.r i :: xs.map HV.d) (.p x' :: ρf)) 0 ρ = ρ.set i (nwS (some x') s) := by
    apply List.ext_getElem?
    intro j
    rw [backS_at, Nat.zero_add]
    have en : newOf (.r i :: xs.map HV.d) (.p x' :: ρf) j = if i = j then some x' else none := by
      show (if i = j then some x' else newOf (xs.map HV.d) ρf j) = _
      rw [newOf_data]
    rw [en]
    by_cases q : i = j
    · subst q
      have hl : i < ρ.length := (List.getElem?_eq_some_iff.mp h0).1
      rw [if_pos rfl, List.getElem?_set_self hl, h0]
      rfl
    · rw [if_neg q, List.getElem?_set_ne q]
      cases ρ[j]? with
      | none => rfl
      | some s => rw [Option.map_some, nwS_none]
  unfold Hds at hr
  unfold mCall
  have e1 : mCons (mVar i) r ρ = .ok (.r i :: xs.map HV.d) ρ := by
    rw [u_cons, u_hold, v]
    show ((r ρ).bind fun hs ρ2 => _) = _
    rw [hr]
    rfl
  rw [e1, bind_ok, ea, List.map_cons, argS_all, a1, e]
  dsimp only
  rw [eb]
  simp [hn]
theorem p_callS {ρ1 : List S} (h : r ρ = .ok (xs.map HV.d) ρ1) (hn : xs.length = n) (e : Ans m xs rv) : mCall n m r ρ = .ok rv ρ1 := by
  obtain ⟨ρf, e⟩ := e
  unfold mCall
  rw [h, bind_ok]
  rw [args_all, argS_all, e]
  dsimp only
  rw [back_all]
  simp [hn]
end
/-- a number drawn, of any size -/
theorem bit_any {n : Nat} {x : D} {m : Int} (h : TrayOk n x) (hn : n < 2 ^ 61) (hm : 0 < m) (hm2 : m.natAbs.log2 < 9000) :
    ∃ r x' ρ, bitM [.p x, .d (.int m)] = .rt (.d (.int r)) (.p x' :: ρ) ∧ 0 ≤ r ∧ r < m ∧ TrayOk (n + 1) x' := by
  obtain ⟨a, b, c, rfl, h1, h2, h3, h4, h5⟩ := h
  by_cases ha : 0 < a
  · exact ⟨_, _, _, bit_pos ha hm hm2, Int.emod_nonneg _ (by omega), Int.emod_lt_of_pos _ hm, _, _, _, rfl, Int.ediv_nonneg h1 (by omega), h2, h3, h4, by omega⟩
  · obtain ⟨r, ρ, e⟩ := bit_neg (a := a) (b := b) (c := c) ha hm hm2 h2 h3 h4 (by omega)
    exact ⟨_, _, _, e, Int.emod_nonneg _ (by omega), Int.emod_lt_of_pos _ hm, _, _, _, rfl, h1, h2, h3, by omega, by omega⟩
/-- a loop with what holds ahead of each turn -/
theorem loopM_inv {body : D → List S → Out} (I : Nat → List S → Prop) : ∀ (items : List D) (k : Nat) (ρ : List S), I k ρ → (∀ i ρ x, items[i]? = some x → I (k + i) ρ → ∃ ρ', (body x ρ = .nx ρ' ∨ body x ρ = .ct ρ') ∧ I (k + i + 1) ρ') → ∃ ρ', loopM body items ρ = .nx ρ' ∧ I (k + items.length) ρ'
  | [], k, ρ, h, _ => ⟨ρ, rfl, h⟩
  | x :: r, k, ρ, h, st => by
    obtain ⟨ρ1, h1, h2⟩ := st 0 ρ x rfl h
    obtain ⟨ρ2, h3, h4⟩ := loopM_inv I r (k + 1) ρ1 h2 fun i ρ z hz hi => by
      have := st (i + 1) ρ z (by simpa using hz) (by rwa [show k + (i + 1) = k + 1 + i by omega])
      rwa [show k + (i + 1) + 1 = k + 1 + i + 1 by omega] at this
    refine ⟨ρ2, ?_, by rw [List.length_cons, show k + (r.length + 1) = k + 1 + r.length by omega]; exact h4⟩
    unfold loopM
    rcases h1 with h1 | h1
    · rw [h1]; exact h3
    · rw [h1]; exact h3
/-- a comprehension over drawn values; the tray stands first -/
theorem lcM_draw {v : Nat} {f : Ex} {P : D → Prop} (k N : Nat) {t : List S} (hv : t[v]? = some .un) (step : ∀ n x z, TrayOk n x → n + k ≤ N → ∃ y x', mForce f (.p x :: t.set v (.d z)) = .ok y (.p x' :: t.set v (.d z)) ∧ TrayOk (n + k) x' ∧ P y) :
    ∀ (items : List D) (n : Nat) (x : D), TrayOk n x → n + k * items.length ≤ N → ∃ ys x', lcM (.nm (v + 1)) [v + 1] mYes f items (.p x :: t) = .ok ys (.p x' :: t) ∧ TrayOk (n + k * items.length) x' ∧ ys.length = items.length ∧ ∀ y ∈ ys, P y
  | [], n, x, h, _ => ⟨[], x, rfl, h, rfl, fun _ h => by cases h⟩
  | z :: r, n, x, h, hl => by
    have eN : n + k * (z :: r).length = (n + k) + k * r.length := by rw [List.length_cons, Nat.mul_succ]; omega
    rw [eN] at hl
    obtain ⟨y, x1, e1, h1, p1⟩ := step n x z h (by omega)
    obtain ⟨ys, x2, e2, h2, l2, p2⟩ := lcM_draw k N hv step r (n + k) x1 h1 hl
    refine ⟨y :: ys, x2, ?_, by rw [eN]; exact h2, by rw [List.length_cons, List.length_cons, l2], fun w hw => ?_⟩
    · have p : (Tg.nm (v + 1)).put z (.p x :: t) = some (.p x :: t.set v (.d z)) := by
        rw [u_put_nm, u_putD, List.getElem?_cons_succ, hv]
        rfl
      unfold lcM
      rw [p]
      dsimp only
      rw [show mYes (S.p x :: t.set v (.d z)) = .ok true (S.p x :: t.set v (.d z)) from rfl, bind_ok, if_pos rfl, e1, bind_ok]
      have w : wipeS (.p x1 :: t.set v (.d z)) [v + 1] = .p x1 :: t := by
        show (S.p x1 :: t.set v (.d z)).set (v + 1) .un = _
        rw [List.set_cons_succ, set_back hv]
      rw [w, e2, bind_ok]
    · rcases List.mem_cons.mp hw with rfl | hw
      · exact p1
      · exact p2 w hw
end MM
set_option Elab.async false
/-! runs put together: the reduced form of a list of runs (plain Lean) -/
namespace FG
abbrev Lt := List Nat
abbrev Rn := Lt × Int
def ins (x : Rn) (r : List Rn) : List Rn := if x.2 = 0 then r else match r with
  | [] => [x]
  | y :: t => if y.1 = x.1 then (if x.2 + y.2 = 0 then t else (x.1, x.2 + y.2) :: t) else x :: y :: t
def act (w r : List Rn) : List Rn := w.foldr ins r
def nf (w : List Rn) : List Rn := act w []
def Red : List Rn → Prop
  | [] => True
  | [x] => x.2 ≠ 0
  | x :: y :: t => x.2 ≠ 0 ∧ y.1 ≠ x.1 ∧ Red (y :: t)
theorem Red.tail : ∀ {x : Rn} {t : List Rn}, Red (x :: t) → Red t
  | _, [], _ => trivial
  | _, _ :: _, h => h.2.2
theorem Red.ne0 : ∀ {x : Rn} {t : List Rn}, Red (x :: t) → x.2 ≠ 0
  | _, [], h => h
  | _, _ :: _, h => h.1
theorem Red.cons {x : Rn} {t : List Rn} (h : x.2 ≠ 0) (h2 : ∀ y, t.head? = some y → y.1 ≠ x.1) (h3 : Red t) : Red (x :: t) := by
  cases t with
  | nil => exact h
  | cons y t => exact ⟨h, h2 y rfl, h3⟩
theorem Red.head {x y : Rn} {t : List Rn} (h : Red (x :: t)) (e : t.head? = some y) : y.1 ≠ x.1 := by
  cases t with
  | nil => cases e
  | cons z t =>
    cases e
    exact h.2.1
theorem ins_zero {l : Lt} {r : List Rn} : ins (l, 0) r = r := if_pos rfl
theorem ins_red {x : Rn} {r : List Rn} (h : Red r) : Red (ins x r) := by
  unfold ins
  split
  · exact h
  · rename_i hx
    cases r with
    | nil => exact hx
    | cons y t =>
      dsimp only
      split
      · rename_i e
        split
        · exact h.tail
        · rename_i hs
          refine .cons hs (fun z hz => ?_) h.tail
          have := h.head hz
          rw [← e]
          exact this
      · rename_i e
        exact ⟨hx, e, h⟩
theorem act_red {w r : List Rn} (h : Red r) : Red (act w r) := by
  induction w with
  | nil => exact h
  | cons x w ih => exact ins_red ih
theorem nf_red {w : List Rn} : Red (nf w) := act_red trivial
theorem ins_cons {x : Rn} {t : List Rn} (h : Red (x :: t)) : ins x t = x :: t := by
  unfold ins
  rw [if_neg h.ne0]
  cases t with
  | nil => rfl
  | cons y t => exact if_neg h.2.1
theorem act_self {r : List Rn} (h : Red r) : act r [] = r := by
  induction r with
  | nil => rfl
  | cons x t ih =>
    show ins x (act t []) = _
    rw [ih h.tail, ins_cons h]
theorem nf_self {r : List Rn} (h : Red r) : nf r = r := act_self h
theorem ins_ins {l : Lt} {n m : Int} {r : List Rn} (h : Red r) : ins (l, n) (ins (l, m) r) = ins (l, n + m) r := by
  by_cases hm : m = 0
  · subst hm
    rw [ins_zero, Int.add_zero]
  by_cases hn : n = 0
  · subst hn
    rw [ins_zero, Int.zero_add]
  cases r with
  | nil =>
    have e1 : ins (l, m) [] = [(l, m)] := if_neg hm
    rw [e1]
    unfold ins
    rw [if_neg hn]
    dsimp only
    rw [if_pos rfl]
  | cons y t =>
    by_cases hy : y.1 = l
    · have e1 : ins (l, m) (y :: t) = if m + y.2 = 0 then t else (l, m + y.2) :: t := by
        unfold ins
        rw [if_neg hm]
        exact if_pos hy
      have e2 : ins (l, n + m) (y :: t) = if n + m = 0 then y :: t else if n + m + y.2 = 0 then t else (l, n + m + y.2) :: t := by
        unfold ins
        split
        · rfl
        · exact if_pos hy
      rw [e1, e2]
      by_cases h0 : m + y.2 = 0
      · rw [if_pos h0]
        have ht : ins (l, n) t = (l, n) :: t := ins_cons (.cons hn (fun z hz => by
          have := h.head hz
          rw [hy] at this
          exact this) h.tail)
        rw [ht]
        by_cases h1 : n + m = 0
        · rw [if_pos h1]
          have : y = (l, n) := Prod.ext hy (by dsimp only; omega)
          rw [this]
        · rw [if_neg h1, if_neg (by omega)]
          have e3 : n + m + y.2 = n := by omega
          rw [e3]
      · rw [if_neg h0]
        have e3 : ins (l, n) ((l, m + y.2) :: t) = if n + (m + y.2) = 0 then t else (l, n + (m + y.2)) :: t := by
          unfold ins
          rw [if_neg hn]
          exact if_pos rfl
        rw [e3]
        by_cases h1 : n + m = 0
        · rw [if_pos h1]
          have e4 : n + (m + y.2) = y.2 := by omega
          rw [e4, if_neg h.ne0]
          have : y = (l, y.2) := Prod.ext hy rfl
          rw [← this]
        · rw [if_neg h1, Int.add_assoc]
    · have e1 : ins (l, m) (y :: t) = (l, m) :: y :: t := by
        unfold ins
        rw [if_neg hm]
        exact if_neg hy
      have e3 : ins (l, n) ((l, m) :: y :: t) = if n + m = 0 then y :: t else (l, n + m) :: y :: t := by
        unfold ins
        rw [if_neg hn]
        exact if_pos rfl
      rw [e1, e3]
      unfold ins
      by_cases h1 : n + m = 0
      · rw [if_pos h1, if_pos h1]
      · rw [if_neg h1, if_neg h1]
        exact (if_neg hy).symm
theorem act_ins {x : Rn} {s r : List Rn} (hr : Red r) : act (ins x s) r = ins x (act s r) := by
  obtain ⟨l, n⟩ := x
  by_cases hn : n = 0
  · subst hn
    rw [ins_zero, ins_zero]
  cases s with
  | nil =>
    have e1 : ins (l, n) [] = [(l, n)] := if_neg hn
    rw [e1]
    rfl
  | cons y t =>
    have hq : Red (act t r) := act_red hr
    by_cases hy : y.1 = l
    · have e1 : ins (l, n) (y :: t) = if n + y.2 = 0 then t else (l, n + y.2) :: t := by
        unfold ins
        rw [if_neg hn]
        exact if_pos hy
      have ey : y = (l, y.2) := Prod.ext hy rfl
      have e2 : ins (l, n) (act (y :: t) r) = ins (l, n + y.2) (act t r) := by
        show ins (l, n) (ins y (act t r)) = _
        rw [ey]
        exact ins_ins hq
      rw [e1, e2]
      by_cases h0 : n + y.2 = 0
      · rw [if_pos h0, h0, ins_zero]
      · rw [if_neg h0]
        rfl
    · have e1 : ins (l, n) (y :: t) = (l, n) :: y :: t := by
        unfold ins
        rw [if_neg hn]
        exact if_neg hy
      rw [e1]
      rfl
theorem act_nf {w r : List Rn} (hr : Red r) : act (nf w) r = act w r := by
  induction w with
  | nil => rfl
  | cons x w ih =>
    show act (ins x (nf w)) r = ins x (act w r)
    rw [act_ins hr, ih]
theorem act_app {w v r : List Rn} : act (w ++ v) r = act w (act v r) := by
  unfold act
  rw [List.foldr_append]
theorem nf_app {w v : List Rn} : nf (w ++ v) = act w (nf v) := act_app
theorem nf_nf {w : List Rn} : nf (nf w) = nf w := nf_self nf_red
theorem nf_app_nf {w v : List Rn} : nf (nf w ++ nf v) = nf (w ++ v) := by
  rw [nf_app, nf_app, nf_nf, act_nf nf_red]
theorem nf_app_l {w v : List Rn} : nf (nf w ++ v) = nf (w ++ v) := by
  rw [nf_app, nf_app, act_nf nf_red]
theorem nf_app_r {w v : List Rn} : nf (w ++ nf v) = nf (w ++ v) := by
  rw [nf_app, nf_app, nf_nf]
/-! undone -/
def neg (x : Rn) : Rn := (x.1, -x.2)
def und (w : List Rn) : List Rn := (w.reverse).map neg
theorem und_app {w v : List Rn} : und (w ++ v) = und v ++ und w := by simp [und]
theorem und_und {w : List Rn} : und (und w) = w := by
  unfold und neg
  rw [← List.map_reverse, List.reverse_reverse, List.map_map]
  conv => rhs; rw [← List.map_id w]
  apply List.map_congr_left
  intro x _
  simp
theorem act_und {w r : List Rn} (hr : Red r) : act (und w) (act w r) = r := by
  induction w generalizing r with
  | nil => rfl
  | cons x w ih =>
    have e : und (x :: w) = und w ++ [neg x] := by simp [und]
    rw [e, act_app]
    show act (und w) (ins (neg x) (ins x (act w r))) = r
    have e2 : ins (neg x) (ins x (act w r)) = act w r := by
      obtain ⟨l, n⟩ := x
      show ins (l, -n) (ins (l, n) (act w r)) = _
      rw [ins_ins (act_red hr), Int.add_left_neg, ins_zero]
    rw [e2, ih hr]
theorem act_und' {w r : List Rn} (hr : Red r) : act w (act (und w) r) = r := by
  have := act_und (w := und w) hr
  rwa [und_und] at this
theorem nf_und_l {w v : List Rn} : nf (und w ++ (w ++ v)) = nf v := by
  rw [nf_app, nf_app, act_und nf_red]
theorem nf_und_r {w v : List Rn} : nf (w ++ (und w ++ v)) = nf v := by
  rw [nf_app, nf_app, act_und' nf_red]
/-- undone reduced is reduced -/
theorem red_app : ∀ {a b : List Rn}, Red (a ++ b) ↔ Red a ∧ Red b ∧ ∀ x y, a.getLast? = some x → b.head? = some y → y.1 ≠ x.1
  | [], b => by simp [Red]
  | [x], b => by
    cases b with
    | nil => simp [Red]
    | cons y t =>
      simp only [List.singleton_append]
      constructor
      · intro h
        refine ⟨h.ne0, h.tail, fun u v hu hv => ?_⟩
        simp at hu hv
        subst hu hv
        exact h.2.1
      · rintro ⟨h1, h2, h3⟩
        exact ⟨h1, h3 x y rfl rfl, h2⟩
  | x :: z :: a, b => by
    have ih := red_app (a := z :: a) (b := b)
    constructor
    · intro h
      have h' : Red ((z :: a) ++ b) := h.tail
      obtain ⟨k1, k2, k3⟩ := ih.mp h'
      refine ⟨⟨h.ne0, h.head (y := z) rfl, k1⟩, k2, fun u v hu hv => k3 u v ?_ hv⟩
      rw [List.getLast?_cons_cons] at hu
      exact hu
    · rintro ⟨h1, h2, h3⟩
      refine ⟨h1.ne0, h1.head (y := z) rfl, ih.mpr ⟨h1.tail, h2, fun u v hu hv => h3 u v ?_ hv⟩⟩
      rw [List.getLast?_cons_cons]
      exact hu
theorem und_red {w : List Rn} (h : Red w) : Red (und w) := by
  induction w with
  | nil => trivial
  | cons x w ih =>
    have e : und (x :: w) = und w ++ [neg x] := by simp [und]
    rw [e, red_app]
    refine ⟨ih h.tail, ?_, fun u v hu hv => ?_⟩
    · have := h.ne0
      show -x.2 ≠ 0
      omega
    · simp at hv
      subst hv
      unfold und at hu
      rw [List.getLast?_map, List.getLast?_reverse] at hu
      cases q : w.head? with
      | none => rw [q] at hu; cases hu
      | some y =>
        rw [q] at hu
        cases hu
        have := h.head q
        exact fun z => this z.symm
theorem nf_und {w : List Rn} : nf (und w) = und (nf w) := by
  have h1 : act (nf w) (nf (und w)) = [] := by
    rw [act_nf nf_red]
    exact act_und' (r := []) trivial
  have h2 : act (und (nf w)) (act (nf w) (nf (und w))) = nf (und w) := act_und nf_red
  rw [h1] at h2
  rw [← h2]
  exact act_self (und_red nf_red)
/-! lengths, letters -/
theorem ins_len {x : Rn} {r : List Rn} : (ins x r).length ≤ r.length + 1 := by
  unfold ins
  split
  · omega
  · cases r with
    | nil => simp
    | cons y t =>
      dsimp only
      split
      · split <;> simp <;> omega
      · simp
theorem act_len {w r : List Rn} : (act w r).length ≤ w.length + r.length := by
  induction w with
  | nil => simp [act]
  | cons x w ih =>
    have := ins_len (x := x) (r := act w r)
    show (ins x (act w r)).length ≤ _
    simp
    omega
theorem nf_len {w : List Rn} : (nf w).length ≤ w.length := by
  have := act_len (w := w) (r := [])
  simpa [nf] using this
theorem ins_mem {x y : Rn} {r : List Rn} (h : y ∈ ins x r) : y.1 = x.1 ∨ y ∈ r := by
  unfold ins at h
  split at h
  · exact .inr h
  · cases r with
    | nil =>
      simp at h
      exact .inl (by rw [h])
    | cons z t =>
      dsimp only at h
      split at h
      · split at h
        · exact .inr (List.mem_cons_of_mem _ h)
        · rcases List.mem_cons.mp h with e | h
          · exact .inl (by rw [e])
          · exact .inr (List.mem_cons_of_mem _ h)
      · rcases List.mem_cons.mp h with e | h
        · exact .inl (by rw [e])
        · exact .inr h
theorem nf_mem {w : List Rn} {y : Rn} (h : y ∈ nf w) : ∃ x ∈ w, x.1 = y.1 := by
  induction w with
  | nil => cases h
  | cons x w ih =>
    rcases ins_mem (show y ∈ ins x (nf w) from h) with e | h
    · exact ⟨x, List.mem_cons_self, e.symm⟩
    · obtain ⟨z, h1, h2⟩ := ih h
      exact ⟨z, List.mem_cons_of_mem _ h1, h2⟩
/-! one more run behind -/
def put (row : List Rn) (x : Rn) : List Rn := if x.2 = 0 then row else match row.getLast? with
  | none => row ++ [x]
  | some y => if y.1 ≠ x.1 then row ++ [x] else if y.2 + x.2 ≠ 0 then row.dropLast ++ [(x.1, y.2 + x.2)] else row.dropLast
theorem last_split {row : List Rn} {y : Rn} (h : row.getLast? = some y) : row = row.dropLast ++ [y] := by
  cases row with
  | nil => cases h
  | cons a t =>
    rw [List.getLast?_eq_some_getLast (List.cons_ne_nil a t)] at h
    have h := Option.some.inj h
    rw [← h, List.dropLast_concat_getLast]
theorem put_nf {row : List Rn} {x : Rn} (h : Red row) : put row x = nf (row ++ [x]) := by
  obtain ⟨l, n⟩ := x
  unfold put
  by_cases hn : n = 0
  · subst hn
    rw [if_pos rfl, nf_app]
    show row = act row (ins (l, 0) [])
    rw [ins_zero, act_self h]
  rw [if_neg hn]
  cases q : row.getLast? with
  | none =>
    have : row = [] := by simpa using q
    subst this
    exact (nf_self (r := [(l, n)]) hn).symm
  | some y =>
    have er := last_split q
    dsimp only
    by_cases hy : y.1 = l
    · rw [if_neg (by simpa using hy)]
      have e0 : nf (row ++ [(l, n)]) = act row.dropLast (ins (l, y.2 + n) []) := by
        have ey : y = (l, y.2) := Prod.ext hy rfl
        rw [er, List.append_assoc, nf_app]
        have e2 : nf ([y] ++ [(l, n)]) = ins (l, y.2 + n) [] := by
          show ins y (ins (l, n) []) = _
          rw [ey]
          exact ins_ins (r := []) trivial
        rw [e2]
        simp
      rw [e0]
      have hd : Red row.dropLast ∧ Red [y] ∧ ∀ u v, row.dropLast.getLast? = some u → [y].head? = some v → v.1 ≠ u.1 := red_app.mp (er ▸ h)
      by_cases h0 : y.2 + n = 0
      · rw [if_neg (by simpa using h0), h0, ins_zero, act_self hd.1]
      · rw [if_pos h0]
        have e3 : ins (l, y.2 + n) [] = [(l, y.2 + n)] := if_neg h0
        rw [e3]
        have : Red (row.dropLast ++ [(l, y.2 + n)]) := red_app.mpr ⟨hd.1, h0, fun u v hu hv => by
          cases hv
          have := hd.2.2 u y hu rfl
          rw [hy] at this
          exact this⟩
        rw [← nf_self this, nf_app, nf_self (r := [(l, y.2 + n)]) h0]
    · rw [if_pos hy]
      exact (nf_self (red_app.mpr ⟨h, (show Red [(l, n)] from hn), fun u v hu hv => by
        cases hv
        rw [q] at hu
        cases hu
        exact fun z => hy z.symm⟩)).symm
theorem put_red {row : List Rn} {x : Rn} (h : Red row) : Red (put row x) := by
  rw [put_nf h]
  exact nf_red
theorem puts_nf {other : List Rn} : ∀ {row : List Rn}, Red row → other.foldl put row = nf (row ++ other) := by
  induction other with
  | nil =>
    intro row h
    rw [List.append_nil, nf_self h]
    rfl
  | cons x t ih =>
    intro row h
    rw [List.foldl_cons, ih (put_red h), put_nf h, nf_app_l, List.append_assoc]
    rfl
/-! two reduced ones put together: what stands against one another is left out -/
theorem meet {a c b : List Rn} (ha : Red a) (hb : Red b) (hm : a = [] ∨ b = [] ∨ ∀ x y, a.getLast? = some x → b.head? = some y → x.1 ≠ y.1) : nf ((a ++ c) ++ (und c ++ b)) = a ++ b := by
  have e : (a ++ c) ++ (und c ++ b) = a ++ (c ++ (und c ++ b)) := by simp
  rw [e, nf_app, nf_und_r, ← nf_app]
  refine nf_self (red_app.mpr ⟨ha, hb, fun x y hx hy => ?_⟩)
  rcases hm with h | h | h
  · subst h; cases hx
  · subst h; cases hy
  · exact fun z => h x y hx hy z.symm
theorem meet2 {a c b : List Rn} {x y : Rn} (ha : Red (a ++ [x])) (hb : Red (y :: b)) (hl : x.1 = y.1) (hs : x.2 + y.2 ≠ 0) : nf (((a ++ [x]) ++ c) ++ (und c ++ (y :: b))) = a ++ (y.1, x.2 + y.2) :: b := by
  have e : ((a ++ [x]) ++ c) ++ (und c ++ (y :: b)) = (a ++ [x]) ++ (c ++ (und c ++ (y :: b))) := by simp
  have ex : x = (y.1, x.2) := Prod.ext hl rfl
  have ey : y = (y.1, y.2) := rfl
  obtain ⟨h1, h2, h3⟩ := red_app.mp ha
  rw [e, nf_app, nf_und_r, nf_self hb, act_app]
  have e2 : act [x] (y :: b) = (y.1, x.2 + y.2) :: b := by
    show ins x (y :: b) = _
    unfold ins
    rw [if_neg (show x.2 ≠ 0 from h2)]
    dsimp only
    rw [if_pos hl.symm, if_neg hs, hl]
  rw [e2]
  have hr : Red (a ++ (y.1, x.2 + y.2) :: b) := red_app.mpr ⟨h1, .cons hs (fun z hz => hb.head hz) hb.tail, fun u v hu hv => by
    cases hv
    have := h3 u x hu rfl
    rw [hl] at this
    exact this⟩
  have e3 : nf ((y.1, x.2 + y.2) :: b) = (y.1, x.2 + y.2) :: b := nf_self (.cons hs (fun z hz => hb.head hz) hb.tail)
  rw [← nf_self hr, nf_app, e3]
end FG
set_option Elab.async false
/-! texts of letters and capitals, and their runs (plain Lean) -/
namespace FG
/-- a small letter or a capital as a run -/
def lt (c : Nat) : Rn := if 97 ≤ c then ([c], 1) else ([c + 32], -1)
def inv (c d : Nat) : Prop := c ≠ d ∧ (lt c).1 = (lt d).1
/-- small letters of s, and its capitals -/
def Al (s : Lt) (c : Nat) : Prop := (97 ≤ c ∧ c ∈ s) ∨ (c < 97 ∧ c + 32 ∈ s)
def Small (s : Lt) : Prop := ∀ c ∈ s, 97 ≤ c ∧ c ≤ 122
def AlT (s w : Lt) : Prop := ∀ c ∈ w, Al s c
/-- a run told by letters -/
def ex1 (r : Rn) : Lt := match r.1 with
  | [x] => if 0 < r.2 then List.replicate r.2.toNat x else List.replicate (-r.2).toNat (x - 32)
  | _ => []
def ex (a : List Rn) : Lt := (a.map ex1).flatten
/-- runs of one letter of s -/
def RnS (s : Lt) (a : List Rn) : Prop := ∀ r ∈ a, ∃ x ∈ s, r.1 = [x]
theorem lt_inv {c d : Nat} (h : inv c d) : lt d = neg (lt c) := by
  obtain ⟨h1, h2⟩ := h
  unfold lt neg at *
  by_cases a : 97 ≤ c <;> by_cases b : 97 ≤ d <;> simp [a, b] at h2 ⊢ <;> omega
theorem nf_cancel {u v : Lt} {c d : Nat} (h : inv c d) : nf ((u ++ c :: d :: v).map lt) = nf ((u ++ v).map lt) := by
  rw [List.map_append, List.map_append, List.map_cons, List.map_cons, lt_inv h, nf_app, nf_app]
  congr 1
  have := nf_und_r (w := [lt c]) (v := v.map lt)
  exact this
theorem lt_mem {s w : Lt} (h : AlT s w) : RnS s (w.map lt) := fun r hr => by
  obtain ⟨c, hc, rfl⟩ := List.mem_map.mp hr
  rcases h c hc with ⟨h1, h2⟩ | ⟨h1, h2⟩
  · exact ⟨c, h2, by unfold lt; rw [if_pos h1]⟩
  · exact ⟨c + 32, h2, by unfold lt; rw [if_neg (by omega)]⟩
theorem nf_rns {s : Lt} {a : List Rn} (h : RnS s a) : RnS s (nf a) := fun r hr => by
  obtain ⟨x, hx, e⟩ := nf_mem hr
  obtain ⟨z, h1, h2⟩ := h x hx
  exact ⟨z, h1, e ▸ h2⟩
theorem ex_cons {r : Rn} {a : List Rn} : ex (r :: a) = ex1 r ++ ex a := rfl
theorem ex1_lt {c : Nat} (h : 65 ≤ c) : ex1 (lt c) = [c] := by
  unfold ex1 lt
  by_cases a : 97 ≤ c
  · simp [a]
  · simp [a]
theorem ex_al {s : Lt} (hs : Small s) {a : List Rn} (h : RnS s a) : AlT s (ex a) := fun c hc => by
  obtain ⟨l, h1, h2⟩ := List.mem_flatten.mp hc
  obtain ⟨r, hr, rfl⟩ := List.mem_map.mp h1
  obtain ⟨x, hx, e⟩ := h r hr
  have hb := hs x hx
  unfold ex1 at h2
  rw [e] at h2
  dsimp only at h2
  split at h2
  · have := List.eq_of_mem_replicate h2
    subst this
    exact .inl ⟨hb.1, hx⟩
  · have := List.eq_of_mem_replicate h2
    subst this
    refine .inr ⟨by omega, ?_⟩
    rwa [show x - 32 + 32 = x by omega]
/-- one more letter ahead -/
theorem ex_ins {s : Lt} (hs : Small s) {c : Nat} {R : List Rn} (hR : Red R) (hm : RnS s R) (hc : Al s c) (hn : ∀ d, (ex R).head? = some d → ¬ inv c d) : ex (ins (lt c) R) = c :: ex R := by
  have hc65 : 65 ≤ c := by
    rcases hc with ⟨h, _⟩ | ⟨_, h⟩
    · omega
    · have := hs _ h
      omega
  have n0 : (lt c).2 ≠ 0 := by
    unfold lt
    split
    · show (1 : Int) ≠ 0
      decide
    · show (-1 : Int) ≠ 0
      decide
  unfold ins
  rw [if_neg n0]
  cases R with
  | nil =>
    dsimp only
    rw [ex_cons, ex1_lt hc65]
    rfl
  | cons y t =>
    dsimp only
    split
    · rename_i e
      obtain ⟨x, hx, ey⟩ := hm y List.mem_cons_self
      have hb := hs x hx
      have y0 := hR.ne0
      have eyx : ex1 y = if 0 < y.2 then List.replicate y.2.toNat x else List.replicate (-y.2).toNat (x - 32) := by
        unfold ex1
        rw [ey]
      by_cases a : 97 ≤ c
      · have l : lt c = ([c], 1) := by unfold lt; rw [if_pos a]
        rw [l] at e ⊢
        have xc : x = c := by
          rw [ey] at e
          simpa using e
        subst xc
        have pos : 0 < y.2 := by
          apply Classical.byContradiction
          intro z
          have k : (-y.2).toNat = ((-y.2).toNat - 1) + 1 := by omega
          refine hn (x - 32) ?_ ⟨by omega, ?_⟩
          · rw [ex_cons, eyx, if_neg z, k, List.replicate_succ]
            rfl
          · unfold lt
            rw [if_pos a, if_neg (by omega)]
            show [x] = [x - 32 + 32]
            rw [show x - 32 + 32 = x by omega]
        dsimp only
        rw [if_neg (by omega), ex_cons, ex_cons, eyx, if_pos pos]
        have e1 : ex1 ([x], 1 + y.2) = x :: List.replicate y.2.toNat x := by
          show (if 0 < 1 + y.2 then List.replicate (1 + y.2).toNat x else _) = _
          rw [if_pos (by omega), show (1 + y.2).toNat = y.2.toNat + 1 by omega, List.replicate_succ]
        rw [e1]
        rfl
      · have l : lt c = ([c + 32], -1) := by unfold lt; rw [if_neg a]
        rw [l] at e ⊢
        have xc : x = c + 32 := by
          rw [ey] at e
          simpa using e
        have pos : ¬ 0 < y.2 := by
          intro z
          have k : y.2.toNat = (y.2.toNat - 1) + 1 := by omega
          refine hn x ?_ ⟨by omega, ?_⟩
          · rw [ex_cons, eyx, if_pos z, k, List.replicate_succ]
            rfl
          · unfold lt
            rw [if_neg a, if_pos (by omega), xc]
        dsimp only
        rw [if_neg (by omega), ex_cons, ex_cons, eyx, if_neg pos]
        have e1 : ex1 ([c + 32], -1 + y.2) = c :: List.replicate (-y.2).toNat (x - 32) := by
          show (if 0 < -1 + y.2 then _ else List.replicate (-(-1 + y.2)).toNat (c + 32 - 32)) = _
          rw [if_neg (by omega), show (-(-1 + y.2)).toNat = (-y.2).toNat + 1 by omega, List.replicate_succ, xc, show c + 32 - 32 = c by omega]
        rw [e1]
        rfl
    · rw [ex_cons, ex1_lt hc65]
      rfl
/-- a text without neighbours that undo one another is told by its runs -/
theorem ex_self {s : Lt} (hs : Small s) : ∀ {w : Lt}, AlT s w → (∀ i c d, w[i]? = some c → w[i + 1]? = some d → ¬ inv c d) → ex (nf (w.map lt)) = w
  | [], _, _ => rfl
  | c :: t, h, hn => by
    have ih := ex_self hs (w := t) (fun z hz => h z (List.mem_cons_of_mem _ hz)) fun i x y h1 h2 => hn (i + 1) x y (by simpa using h1) (by simpa using h2)
    show ex (ins (lt c) (nf (t.map lt))) = _
    rw [ex_ins hs nf_red (nf_rns (lt_mem fun z hz => h z (List.mem_cons_of_mem _ hz))) (h c List.mem_cons_self) (fun d hd => ?_), ih]
    rw [ih] at hd
    refine hn 0 c d rfl ?_
    rw [List.getElem?_cons_succ, ← List.head?_eq_getElem?]
    exact hd
theorem act_rep {x : Lt} {e : Int} {r : List Rn} (hr : Red r) : ∀ n : Nat, act (List.replicate n (x, e)) r = ins (x, n * e) r
  | 0 => by
    rw [show ((0 : Nat) : Int) * e = 0 by simp, ins_zero]
    rfl
  | n + 1 => by
    rw [List.replicate_succ]
    show ins (x, e) (act (List.replicate n (x, e)) r) = _
    rw [act_rep hr n, ins_ins hr]
    congr 2
    rw [Int.natCast_succ, Int.add_mul, Int.one_mul, Int.add_comm]
theorem ex1_act {s : Lt} (hs : Small s) {r : Rn} {x : Nat} (hx : x ∈ s) (e : r.1 = [x]) {R : List Rn} (hR : Red R) : act ((ex1 r).map lt) R = ins r R := by
  have hb := hs x hx
  have l1 : lt x = ([x], 1) := by unfold lt; rw [if_pos hb.1]
  have l2 : lt (x - 32) = ([x], -1) := by
    unfold lt
    rw [if_neg (by omega), show x - 32 + 32 = x by omega]
  unfold ex1
  rw [e]
  dsimp only
  split
  · rw [List.map_replicate, l1, act_rep hR]
    congr 1
    refine Prod.ext e.symm ?_
    dsimp only
    omega
  · rw [List.map_replicate, l2, act_rep hR]
    congr 1
    refine Prod.ext e.symm ?_
    dsimp only
    omega
theorem ex_act {s : Lt} (hs : Small s) {R : List Rn} (hR : Red R) : ∀ {a : List Rn}, RnS s a → act ((ex a).map lt) R = act a R
  | [], _ => rfl
  | r :: a, h => by
    obtain ⟨x, hx, e⟩ := h r List.mem_cons_self
    have ih := ex_act hs hR (a := a) fun z hz => h z (List.mem_cons_of_mem _ hz)
    rw [ex_cons, List.map_append, act_app, ih, ex1_act hs hx e (act_red hR)]
    rfl
theorem nf_ex {s : Lt} (hs : Small s) {a : List Rn} (h : RnS s a) (hr : Red a) : nf ((ex a).map lt) = a := (ex_act hs (R := []) trivial h).trans (act_self hr)
theorem ex_inj {s : Lt} (hs : Small s) {a b : List Rn} (ha : RnS s a) (hb : RnS s b) (ra : Red a) (rb : Red b) (e : ex a = ex b) : a = b := by
  rw [← nf_ex hs ha ra, ← nf_ex hs hb rb, e]
theorem ex1_len {s : Lt} {r : Rn} {x : Nat} (e : r.1 = [x]) : (ex1 r).length = r.2.natAbs := by
  unfold ex1
  rw [e]
  dsimp only
  split
  · rw [List.length_replicate]
    omega
  · rw [List.length_replicate]
    omega
end FG
set_option Elab.async false
set_option maxRecDepth 100000
set_option maxHeartbeats 4000000
namespace WW
open PySem MM

def xnames : List Str := [("CountError" : Str), ("InvalidLetters" : Str), ("InvalidText" : Str), ("InvalidWord" : Str), ("InvalidOperation" : Str), ("Word" : Str)]
def b_are_small : Sm := sRet (mCB allD (mCons (mLc (mItems (mVar 0)) (.nm 1) [1] (mYes) (mChain leD leD (mC (.str [97])) (mVar 1) (mC (.str [122])))) (mNil)))
def m_are_small : Fn := fnM 2 b_are_small
def b_is_letters : Sm := sSeq (sIf (mOrT (mNotT (mTruth (mIsT "str" (mVar 0)))) (mOrT (mNotT (mTestB (mChain leD leD (mC (.int 1)) (mCB lenD (mCons (mVar 0) (mNil))) (mC (.int 3))))) (mNotT (mTruth (mCall 1 m_are_small (mCons (mVar 0) (mNil))))))) (sRet (mC (.bl false))) (sNext)) (sRet (mCB allD (mCons (mLc (mSrc zipD (mCons (mVar 0) (mCons (mSlice sliceD (mVar 0) (mPart (mC (.int 1))) (mNoPart)) (mNil)))) (.tp [.nm 1, .nm 2]) [1, 2] (mYes) (mBin ltD (mVar 1) (mVar 2))) (mNil))))
def m_is_letters : Fn := fnM 3 b_is_letters
def b_require_letters : Sm := sIf (mNotT (mTruth (mCall 1 m_is_letters (mCons (mVar 0) (mNil))))) (sRaise "InvalidLetters") (sNext)
def m_require_letters : Fn := fnM 1 b_require_letters
def b_is_integer : Sm := sRet (mAndV (mIsT "int" (mVar 0)) (mAndV (mNotV (mIsT "bool" (mVar 0))) (mChain leD leD (mUn negD (mC (.int 99999999999999999999999999999999999999999999999999999999999999999999999999999999999999999999999999999999999999999999999999999999999999999999999999999999999999999999999999999999999999999999999999999999))) (mVar 0) (mC (.int 99999999999999999999999999999999999999999999999999999999999999999999999999999999999999999999999999999999999999999999999999999999999999999999999999999999999999999999999999999999999999999999999999999999)))))
def m_is_integer : Fn := fnM 1 b_is_integer
def b_is_run : Sm := sSeq (sIf (mOrT (mNotT (mTruth (mIsT "tuple" (mVar 1)))) (mOrT (mTestB (mBin neD (mCB lenD (mCons (mVar 1) (mNil))) (mC (.int 2)))) (mOrT (mNotT (mTruth (mIsT "str" (mBin ixD (mVar 1) (mC (.int 0)))))) (mNotT (mTruth (mCall 1 m_is_integer (mCons (mBin ixD (mVar 1) (mC (.int 1))) (mNil)))))))) (sRet (mC (.bl false))) (sNext)) (sRet (mAndV (mBin eqD (mCB lenD (mCons (mBin ixD (mVar 1) (mC (.int 0))) (mNil))) (mC (.int 1))) (mBin inD (mBin ixD (mVar 1) (mC (.int 0))) (mVar 0))))
def m_is_run : Fn := fnM 2 b_is_run
def b_require_runs : Sm := sIf (mOrT (mNotT (mTruth (mIsT "tuple" (mVar 1)))) (mNotT (mTruth (mCB allD (mCons (mLc (mItems (mVar 1)) (.nm 2) [2] (mYes) (mCall 2 m_is_run (mCons (mVar 0) (mCons (mVar 2) (mNil))))) (mNil)))))) (sRaise "InvalidOperation") (sNext)
def m_require_runs : Fn := fnM 3 b_require_runs
def b_joint : Sm := sSeq (sSet 2 (mC (.int 0))) (sSeq (whileM (mAndT (mTestB (mBin ltD (mVar 2) (mCB minD (mCons (mLst (mCons (mCB lenD (mCons (mVar 0) (mNil))) (mCons (mCB lenD (mCons (mVar 1) (mNil))) (mNil)))) (mNil))))) (mTestB (mBin eqD (mBin ixD (mVar 0) (mBin subD (mUn negD (mC (.int 1))) (mVar 2))) (mTup (mCons (mBin ixD (mBin ixD (mVar 1) (mVar 2)) (mC (.int 0))) (mCons (mUn negD (mBin ixD (mBin ixD (mVar 1) (mVar 2)) (mC (.int 1)))) (mNil))))))) (sSet 2 (mBin addD (mVar 2) (mC (.int 1)))) 100000) (sSeq (sPar [3, 4] [mSlice sliceD (mVar 0) (mNoPart) (mPart (mBin subD (mCB lenD (mCons (mVar 0) (mNil))) (mVar 2))), mSlice sliceD (mVar 1) (mPart (mVar 2)) (mNoPart)]) (sSeq (sIf (mOrT (mTestB (mBin eqD (mCB lenD (mCons (mVar 3) (mNil))) (mC (.int 0)))) (mOrT (mTestB (mBin eqD (mCB lenD (mCons (mVar 4) (mNil))) (mC (.int 0)))) (mTestB (mBin neD (mBin ixD (mBin ixD (mVar 3) (mUn negD (mC (.int 1)))) (mC (.int 0))) (mBin ixD (mBin ixD (mVar 4) (mC (.int 0))) (mC (.int 0))))))) (sRet (mLst (mStar (mVar 3) (mStar (mVar 4) (mNil))))) (sNext)) (sRet (mLst (mStar (mSlice sliceD (mVar 3) (mNoPart) (mPart (mUn negD (mC (.int 1))))) (mCons (mTup (mCons (mBin ixD (mBin ixD (mVar 4) (mC (.int 0))) (mC (.int 0))) (mCons (mBin addD (mBin ixD (mBin ixD (mVar 3) (mUn negD (mC (.int 1)))) (mC (.int 1))) (mBin ixD (mBin ixD (mVar 4) (mC (.int 0))) (mC (.int 1)))) (mNil)))) (mStar (mSlice sliceD (mVar 4) (mPart (mC (.int 1))) (mNoPart)) (mNil)))))))))
def m_joint : Fn := fnM 5 b_joint
def b_shortened (m_shortened : Fn) : Sm := sSeq (sIf (mTestB (mBin ltD (mCB lenD (mCons (mVar 0) (mNil))) (mC (.int 2)))) (sRet (mLc (mItems (mVar 0)) (.nm 2) [2] (mTestB (mBin neD (mBin ixD (mVar 2) (mC (.int 1))) (mC (.int 0)))) (mVar 2))) (sNext)) (sSeq (sSet 1 (mBin fdivD (mCB lenD (mCons (mVar 0) (mNil))) (mC (.int 2)))) (sRet (mCall 2 m_joint (mCons (mCall 1 m_shortened (mCons (mSlice sliceD (mVar 0) (mNoPart) (mPart (mVar 1))) (mNil))) (mCons (mCall 1 m_shortened (mCons (mSlice sliceD (mVar 0) (mPart (mVar 1)) (mNoPart)) (mNil))) (mNil))))))
def mm_shortened : Nat → Fn
  | 0 => fun _ => .bad
  | n + 1 => fnM 3 (b_shortened (mm_shortened n))
def m_shortened : Fn := mm_shortened 16
def b_Word___init__ : Sm := sSeq (sIf (mTruth (mVar 3)) (sSeq (sExpr (mCall 1 m_require_letters (mCons (mVar 1) (mNil)))) (sExpr (mCall 2 m_require_runs (mCons (mVar 1) (mCons (mVar 2) (mNil)))))) (sNext)) (sSeq (sFldSet ["Word"] 0 "own_letters" (mVar 1)) (sSeq (sFldSet ["Word"] 0 "own_runs" (mCB tupleD (mCons (mCall 1 m_shortened (mCons (mVar 2) (mNil))) (mNil)))) (sIf (mTestB (mBin gtD (mCB lenD (mCons (mFld ["Word"] "own_runs" (mVar 0)) (mNil))) (mC (.int 200)))) (sBad) (sNext))))
def m_Word___init__ : Fn := fnM 4 b_Word___init__
def b_Word_made : Sm := sRet (mMakeK 4 "Word" m_Word___init__ 2 1 (mCons (mVar 0) (mCons (mVar 1) (mNil))) (mCons (mC (.bl false)) (mNil)))
def m_Word_made : Fn := fnM 2 b_Word_made
def b_is_text_within : Sm := sSeq (sSet 2 (mBin addD (mVar 0) (mBM "str" upperD (mVar 0) mNil))) (sRet (mAndV (mIsT "str" (mVar 1)) (mAndV (mBin leD (mCB lenD (mCons (mVar 1) (mNil))) (mC (.int 4000))) (mCB allD (mCons (mLc (mItems (mVar 1)) (.nm 3) [3] (mYes) (mBin inD (mVar 3) (mVar 2))) (mNil))))))
def m_is_text_within : Fn := fnM 4 b_is_text_within
def b_require_text : Sm := sIf (mNotT (mTruth (mCall 2 m_is_text_within (mCons (mVar 0) (mCons (mVar 1) (mNil)))))) (sRaise "InvalidText") (sNext)
def m_require_text : Fn := fnM 2 b_require_text
def b_Word_of : Sm := sSeq (sExpr (mCall 1 m_require_letters (mCons (mVar 1) (mNil)))) (sSeq (sExpr (mCall 2 m_require_text (mCons (mVar 1) (mCons (mVar 2) (mNil))))) (sRet (mStat 2 "Word" m_Word_made (mVar 0) (mCons (mVar 1) (mCons (mLc (mItems (mVar 2)) (.nm 3) [3] (mYes) (mTup (mCons (mBM "str" lowerD (mVar 3) mNil) (mCons (mIf (mTestB (mBin inD (mVar 3) (mVar 1))) (mC (.int 1)) (mUn negD (mC (.int 1)))) (mNil))))) (mNil))))))
def m_Word_of : Fn := fnM 4 b_Word_of
def b_Word_runs : Sm := sRet (mFld ["Word"] "own_runs" (mVar 0))
def m_Word_runs : Fn := fnM 1 b_Word_runs
def b_Word_size : Sm := sRet (mCB sumD (mCons (mLc (mItems (mFld ["Word"] "own_runs" (mVar 0))) (.tp [.nm 1, .nm 2]) [1, 2] (mYes) (mCB absD (mCons (mVar 2) (mNil)))) (mNil)))
def m_Word_size : Fn := fnM 3 b_Word_size
def b_require_word : Sm := sIf (mNotT (mTruth (mIsC ["Word"] "Word" (mVar 0)))) (sRaise "InvalidWord") (sNext)
def m_require_word : Fn := fnM 1 b_require_word
def b_require_same : Sm := sSeq (sExpr (mCall 1 m_require_word (mCons (mVar 0) (mNil)))) (sSeq (sExpr (mCall 1 m_require_word (mCons (mVar 1) (mNil)))) (sIf (mTestB (mBin neD (mFld ["Word"] "own_letters" (mVar 0)) (mFld ["Word"] "own_letters" (mVar 1)))) (sRaise "InvalidOperation") (sNext)))
def m_require_same : Fn := fnM 2 b_require_same
def b_undone_runs : Sm := sRet (mLc (mItems (mUn revD (mVar 0))) (.tp [.nm 1, .nm 2]) [1, 2] (mYes) (mTup (mCons (mVar 1) (mCons (mUn negD (mVar 2)) (mNil)))))
def m_undone_runs : Fn := fnM 3 b_undone_runs
def b_Word_turned : Sm := sSeq (sExpr (mCall 2 m_require_same (mCons (mVar 0) (mCons (mVar 1) (mNil))))) (sSeq (sSet 2 (mLst (mStar (mFld ["Word"] "own_runs" (mVar 1)) (mStar (mFld ["Word"] "own_runs" (mVar 0)) (mStar (mCall 1 m_undone_runs (mCons (mFld ["Word"] "own_runs" (mVar 1)) (mNil))) (mNil)))))) (sRet (mStat 2 "Word" m_Word_made (mC (.cls "Word")) (mCons (mFld ["Word"] "own_letters" (mVar 0)) (mCons (mVar 2) (mNil))))))
def m_Word_turned : Fn := fnM 3 b_Word_turned
def b_Word_bracket : Sm := sSeq (sExpr (mCall 2 m_require_same (mCons (mVar 0) (mCons (mVar 1) (mNil))))) (sSeq (sSet 2 (mLst (mStar (mFld ["Word"] "own_runs" (mVar 0)) (mStar (mFld ["Word"] "own_runs" (mVar 1)) (mStar (mCall 1 m_undone_runs (mCons (mFld ["Word"] "own_runs" (mVar 0)) (mNil))) (mStar (mCall 1 m_undone_runs (mCons (mFld ["Word"] "own_runs" (mVar 1)) (mNil))) (mNil))))))) (sRet (mStat 2 "Word" m_Word_made (mC (.cls "Word")) (mCons (mFld ["Word"] "own_letters" (mVar 0)) (mCons (mVar 2) (mNil))))))
def m_Word_bracket : Fn := fnM 3 b_Word_bracket
def b_is_integer_within : Sm := sRet (mAndV (mCall 1 m_is_integer (mCons (mVar 0) (mNil))) (mChain leD leD (mVar 1) (mVar 0) (mVar 2)))
def m_is_integer_within : Fn := fnM 3 b_is_integer_within
def b_require_within : Sm := sIf (mNotT (mTruth (mCall 3 m_is_integer_within (mCons (mVar 0) (mCons (mVar 1) (mCons (mVar 2) (mNil))))))) (sBad) (sNext)
def m_require_within : Fn := fnM 3 b_require_within
def b_Word_power : Sm := sSeq (sExpr (mCall 3 m_require_within (mCons (mVar 1) (mCons (mUn negD (mC (.int 400))) (mCons (mC (.int 400)) (mNil)))))) (sSeq (sSet 2 (mIf (mTestB (mBin ltD (mVar 1) (mC (.int 0)))) (mCall 1 m_undone_runs (mCons (mFld ["Word"] "own_runs" (mVar 0)) (mNil))) (mCB listD (mCons (mFld ["Word"] "own_runs" (mVar 0)) (mNil))))) (sRet (mStat 2 "Word" m_Word_made (mC (.cls "Word")) (mCons (mFld ["Word"] "own_letters" (mVar 0)) (mCons (mBin mulD (mVar 2) (mCB absD (mCons (mVar 1) (mNil)))) (mNil))))))
def m_Word_power : Fn := fnM 3 b_Word_power
def b_Word_shortest : Sm := sSeq (sIf (mTestB (mBin gtD (mPropO [("Word", m_Word_size)] (mVar 0)) (mC (.int 4000)))) (sBad) (sNext)) (sSeq (sSet 1 (mLc (mItems (mFld ["Word"] "own_runs" (mVar 0))) (.tp [.nm 2, .nm 3]) [2, 3] (mYes) (mIf (mTestB (mBin gtD (mVar 3) (mC (.int 0)))) (mBin mulD (mVar 2) (mVar 3)) (mBin mulD (mBM "str" upperD (mVar 2) mNil) (mUn negD (mVar 3)))))) (sRet (mBM "str" joinD (mC (.str [])) (mCons (mVar 1) (mNil)))))
def m_Word_shortest : Fn := fnM 4 b_Word_shortest
def b_Word___mul__ : Sm := sSeq (sIf (mOrT (mNotT (mTruth (mIsC ["Word"] "Word" (mVar 1)))) (mTestB (mBin neD (mFld ["Word"] "own_letters" (mVar 1)) (mFld ["Word"] "own_letters" (mVar 0))))) (sRaise "InvalidOperation") (sNext)) (sRet (mMakeK 4 "Word" m_Word___init__ 2 1 (mCons (mFld ["Word"] "own_letters" (mVar 0)) (mCons (mLst (mStar (mFld ["Word"] "own_runs" (mVar 0)) (mStar (mFld ["Word"] "own_runs" (mVar 1)) (mNil)))) (mNil))) (mCons (mC (.bl false)) (mNil))))
def m_Word___mul__ : Fn := fnM 2 b_Word___mul__
def b_Word___invert__ : Sm := sRet (mMakeK 4 "Word" m_Word___init__ 2 1 (mCons (mFld ["Word"] "own_letters" (mVar 0)) (mCons (mCall 1 m_undone_runs (mCons (mFld ["Word"] "own_runs" (mVar 0)) (mNil))) (mNil))) (mCons (mC (.bl false)) (mNil)))
def m_Word___invert__ : Fn := fnM 1 b_Word___invert__
def b_Word___eq__ : Sm := sRet (mAndV (mIsC ["Word"] "Word" (mVar 1)) (mAndV (mBin eqD (mFld ["Word"] "own_letters" (mVar 0)) (mFld ["Word"] "own_letters" (mVar 1))) (mBin eqD (mFld ["Word"] "own_runs" (mVar 0)) (mFld ["Word"] "own_runs" (mVar 1)))))
def m_Word___eq__ : Fn := fnM 2 b_Word___eq__
def b__law_bit : Sm := sSeq (sIf (mTestB (mBin gtD (mBin ixD (mVar 0) (mC (.int 0))) (mC (.int 0)))) (sSeq (sSet 2 (mBin modD (mCB intD (mCons (mBin ixD (mVar 0) (mC (.int 0))) (mNil))) (mVar 1))) (sSeq (sSetIx 0 (mC (.int 0)) (mBin fdivD (mBin ixD (mVar 0) (mC (.int 0))) (mVar 1))) (sRet (mVar 2)))) (sNext)) (sSeq (sSetIx 0 (mC (.int 2)) (mBin addD (mBin ixD (mVar 0) (mC (.int 2))) (mC (.int 1)))) (sSeq (sSet 3 (mBin modD (mCB intD (mCons (mBin addD (mBin ixD (mVar 0) (mC (.int 1))) (mBin mulD (mC (.int 1000423)) (mBin ixD (mVar 0) (mC (.int 2))))) (mNil))) (mC (.int 2305843009213693951)))) (sSeq (sSet 4 (mBin addD (mBin mulD (mBin modD (mCB intD (mCons (mBin mulD (mVar 3) (mVar 3)) (mNil))) (mC (.int 2305843009213693921))) (mVar 3)) (mBin mulD (mC (.int 9127)) (mBin ixD (mVar 0) (mC (.int 2)))))) (sRet (mBin modD (mCB intD (mCons (mBin fdivD (mBin modD (mCB intD (mCons (mVar 4) (mNil))) (mC (.int 2305843009213693907))) (mC (.int 16384))) (mNil))) (mVar 1))))))
def m__law_bit : Fn := fnM 5 b__law_bit
def b__law_pick : Sm := sRet (mBin ixD (mVar 1) (mCall 2 m__law_bit (mCons (mVar 0) (mCons (mCB lenD (mCons (mVar 1) (mNil))) (mNil)))))
def m__law_pick : Fn := fnM 2 b__law_pick
def b__law_signs : Sm := sRet (mCall 2 m__law_pick (mCons (mVar 0) (mCons (mLst (mCons (mC (.str [97, 98])) (mCons (mC (.str [97, 98])) (mCons (mC (.str [97, 98])) (mCons (mC (.str [120, 121])) (mCons (mC (.str [97])) (mCons (mC (.str [97, 98, 99])) (mNil)))))))) (mNil))))
def m__law_signs : Fn := fnM 1 b__law_signs
def b__law_tray : Sm := sSeq (sSet 2 (mIf (mTestB (mBin ltD (mVar 1) (mCB lenD (mCons (mVar 0) (mNil))))) (mBin ixD (mVar 0) (mVar 1)) (mBin addD (mBin mulD (mC (.int 67)) (mVar 1)) (mC (.int 29))))) (sSeq (sSet 3 (mBin modD (mCB intD (mCons (mCB absD (mCons (mVar 2) (mNil))) (mNil))) (mBin powD (mBin powD (mC (.int 10)) (mC (.int 61))) (mC (.int 11))))) (sSeq (sSet 4 (mBin addD (mBin addD (mBin addD (mBin mulD (mBin modD (mCB intD (mCons (mVar 3) (mNil))) (mC (.int 2147483249))) (mC (.int 98347))) (mBin mulD (mC (.int 9421)) (mVar 1))) (mBin mulD (mC (.int 47)) (mCB intD (mCons (mBin ltD (mVar 2) (mC (.int 0))) (mNil))))) (mC (.int 61)))) (sRet (mLst (mCons (mCB maxD (mCons (mC (.int 0)) (mCons (mBin subD (mVar 3) (mBin powD (mC (.int 10)) (mC (.int 18)))) (mNil)))) (mCons (mBin modD (mCB intD (mCons (mVar 4) (mNil))) (mC (.int 2305843009213693907))) (mCons (mC (.int 0)) (mNil))))))))
def m__law_tray : Fn := fnM 5 b__law_tray
def b__law_power : Sm := sSeq (sSet 2 (mCall 2 m__law_bit (mCons (mVar 0) (mCons (mC (.int 8)) (mNil))))) (sSeq (sSet 3 (mIf (mTestB (mBin ltD (mVar 2) (mC (.int 7)))) (mBin addD (mC (.int 1)) (mCall 2 m__law_bit (mCons (mVar 0) (mCons (mVar 1) (mNil))))) (mBin addD (mC (.int 1)) (mCall 2 m__law_bit (mCons (mVar 0) (mCons (mBin powD (mC (.int 10)) (mC (.int 30))) (mNil))))))) (sRet (mIf (mTestB (mBin eqD (mCall 2 m__law_bit (mCons (mVar 0) (mCons (mC (.int 2)) (mNil)))) (mC (.int 0)))) (mVar 3) (mBin subD (mC (.int 0)) (mVar 3)))))
def m__law_power : Fn := fnM 4 b__law_power
def b__law_put_row : Sm := sSeq (sIf (mTestB (mBin eqD (mVar 2) (mC (.int 0)))) (sRet (mVar 0)) (sNext)) (sSeq (sIf (mOrT (mTestB (mBin eqD (mVar 0) (mTup (mNil)))) (mTestB (mBin neD (mBin ixD (mBin ixD (mVar 0) (mUn negD (mC (.int 1)))) (mC (.int 0))) (mVar 1)))) (sRet (mBin addD (mVar 0) (mTup (mCons (mTup (mCons (mVar 1) (mCons (mVar 2) (mNil)))) (mNil))))) (sNext)) (sSeq (sSet 3 (mBin addD (mBin ixD (mBin ixD (mVar 0) (mUn negD (mC (.int 1)))) (mC (.int 1))) (mVar 2))) (sRet (mIf (mTestB (mBin neD (mVar 3) (mC (.int 0)))) (mBin addD (mSlice sliceD (mVar 0) (mNoPart) (mPart (mUn negD (mC (.int 1))))) (mTup (mCons (mTup (mCons (mVar 1) (mCons (mVar 3) (mNil)))) (mNil)))) (mSlice sliceD (mVar 0) (mNoPart) (mPart (mUn negD (mC (.int 1)))))))))
def m__law_put_row : Fn := fnM 4 b__law_put_row
def b__law_row : Sm := sSeq (sSet 4 (mTup (mNil))) (sSeq (sFor (mSrc rng1 (mCons (mCall 2 m__law_bit (mCons (mVar 0) (mCons (mBin addD (mVar 2) (mC (.int 1))) (mNil)))) (mNil))) (.nm 5) (sSet 4 (mCall 3 m__law_put_row (mCons (mVar 4) (mCons (mCall 2 m__law_pick (mCons (mVar 0) (mCons (mVar 1) (mNil)))) (mCons (mCall 2 m__law_power (mCons (mVar 0) (mCons (mVar 3) (mNil)))) (mNil))))))) (sRet (mVar 4)))
def m__law_row : Fn := fnM 6 b__law_row
end WW
set_option Elab.async false
set_option maxRecDepth 100000
set_option maxHeartbeats 4000000
namespace WW
open PySem MM FG
/-! ### runs and words as data -/
def rD (x : Rn) : D := .tup [.str x.1, .int x.2]
def rs (w : List Rn) : List D := w.map rD
def wd (s : Lt) (w : List Rn) : D := .ins "Word" [("own_letters", .str s), ("own_runs", .tup (rs w))]
def LowR (w : List Rn) : Prop := ∀ x ∈ w, Low x.1
@[simp] theorem rs_len (w : List Rn) : (rs w).length = w.length := by simp [rs]
theorem rs_app (a b : List Rn) : rs (a ++ b) = rs a ++ rs b := by simp [rs]
theorem LowR.sub {a b : List Rn} (h : LowR b) (s : ∀ x ∈ a, x ∈ b) : LowR a := fun x hx => h x (s x hx)
theorem LowR.nf {w : List Rn} (h : LowR w) : LowR (FG.nf w) := fun x hx => by
  obtain ⟨y, h1, h2⟩ := nf_mem hx
  rw [← h2]
  exact h y h1
theorem LowR.app {a b : List Rn} (h : LowR a) (k : LowR b) : LowR (a ++ b) := fun x hx => by
  rcases List.mem_append.mp hx with z | z
  · exact h x z
  · exact k x z
theorem okD_run {x : Rn} (h : Low x.1) : okD (rD x) = true := by
  have : (x.1.all fun c => decide (c < 0x110000)) = true := List.all_eq_true.mpr fun c hc => decide_eq_true (h c hc)
  simp [okD, rD, D.okq, D.okqs, D.dep, D.deps]
  exact fun c hc => h c hc
theorem eqD_run {x y : Rn} (hx : Low x.1) (hy : Low y.1) : eqD (rD x) (rD y) = some (.d (.bl (decide (x = y)))) := by
  have e : eqB (rD x) (rD y) = some (D.eqv (rD x) (rD y)) := by
    show (if okD (rD x) = true ∧ okD (rD y) = true then some (D.eqv (rD x) (rD y)) else none) = _
    exact if_pos ⟨okD_run hx, okD_run hy⟩
  have e2 : D.eqv (rD x) (rD y) = decide (x = y) := by
    obtain ⟨a, i⟩ := x
    obtain ⟨b, j⟩ := y
    show ((a == b) && ((i == j) && true)) = _
    by_cases h1 : a = b <;> by_cases h2 : i = j <;> simp [h1, h2]
  unfold eqD
  rw [e, e2]
  rfl
theorem at_nat {α : Type} {l : List α} {k : Nat} (h : k < l.length) : L2.atI l (k : Int) = some l[k] := by
  simp [L2.atI, L2.ixN, h]
theorem at_neg {α : Type} {l : List α} {i : Int} {k : Nat} (e : i = -1 - (k : Int)) (h : k < l.length) : L2.atI l i = some (l[l.length - 1 - k]'(by omega)) := by
  subst e
  have e : ((-1 - (k : Int)) + (l.length : Int)).toNat = l.length - 1 - k := by omega
  have h1 : l.length - 1 - k < l.length := by omega
  unfold L2.atI L2.ixN
  rw [if_neg (by omega), if_pos (by omega), e]
  simp [h1]
theorem rs_at {w : List Rn} {k : Nat} (h : k < w.length) : ixD (.lst (rs w)) (.int (k : Int)) = some (.d (rD w[k])) := by
  show (L2.atI (rs w) (k : Int)).map RV.d = _
  rw [at_nat (by simpa using h)]
  simp [rs]
theorem rs_neg {w : List Rn} {i : Int} {k : Nat} (e : i = -1 - (k : Int)) (h : k < w.length) : ixD (.lst (rs w)) (.int i) = some (.d (rD (w[w.length - 1 - k]'(by omega)))) := by
  show (L2.atI (rs w) i).map RV.d = _
  rw [at_neg e (by simpa using h)]
  simp [rs]
theorem rt_at {w : List Rn} {k : Nat} (h : k < w.length) : ixD (.tup (rs w)) (.int (k : Int)) = some (.d (rD w[k])) := rs_at h
theorem rt_neg {w : List Rn} {i : Int} {k : Nat} (e : i = -1 - (k : Int)) (h : k < w.length) : ixD (.tup (rs w)) (.int i) = some (.d (rD (w[w.length - 1 - k]'(by omega)))) := rs_neg e h
theorem run_0 {x : Rn} : ixD (rD x) (.int 0) = some (.d (.str x.1)) := rfl
theorem run_1 {x : Rn} : ixD (rD x) (.int 1) = some (.d (.int x.2)) := rfl
theorem len_lst {l : List D} : lenD [.lst l] = some (.d (.int (l.length : Nat))) := rfl
theorem len_tup {l : List D} : lenD [.tup l] = some (.d (.int (l.length : Nat))) := rfl
theorem cut_lo {α : Type} {l : List α} {i : Nat} (h : i ≤ l.length) : cutL l (some (i : Int)) none = l.drop i := by
  have e2 : min i l.length = i := by omega
  simp [cutL, HT.sIx_nat, HT.sIx_none, e2]
  exact List.take_of_length_le (by simp)
theorem cut_hi {α : Type} {l : List α} {j : Nat} (h : j ≤ l.length) : cutL l none (some (j : Int)) = l.take j := by
  have e1 : min j l.length = j := by omega
  simp [cutL, HT.sIx_nat, HT.sIx_none, e1]
theorem cut_last {α : Type} {l : List α} : cutL l none (some (-1)) = l.dropLast := by
  have e : ((-1 : Int) + (l.length : Int)).toNat = l.length - 1 := by omega
  simp [cutL, HT.sIx_none, HT.sIx, e, List.dropLast_eq_take]
/-! ### joint -/
def jT : List S → R Bool := mAndT (mTestB (mBin ltD (mVar 2) (mCB minD (mCons (mLst (mCons (mCB lenD (mCons (mVar 0) (mNil))) (mCons (mCB lenD (mCons (mVar 1) (mNil))) (mNil)))) (mNil))))) (mTestB (mBin eqD (mBin ixD (mVar 0) (mBin subD (mUn negD (mC (.int 1))) (mVar 2))) (mTup (mCons (mBin ixD (mBin ixD (mVar 1) (mVar 2)) (mC (.int 0))) (mCons (mUn negD (mBin ixD (mBin ixD (mVar 1) (mVar 2)) (mC (.int 1)))) (mNil))))))
def jM : Sm := sSet 2 (mBin addD (mVar 2) (mC (.int 1)))
def jS (a b : List Rn) (k : Nat) : List S := [.d (.lst (rs a)), .d (.lst (rs b)), .d (.int (k : Int)), .un, .un]
theorem min_lens (a b : List Rn) : minD [.lst [.int (a.length : Int), .int (b.length : Int)]] = some (.d (.int ((min a.length b.length : Nat) : Int))) := by
  show some (RV.d (.int (if (b.length : Int) < a.length then (b.length : Int) else a.length))) = _
  split <;> congr <;> omega
theorem jT_ok {a b : List Rn} (ha : LowR a) (hb : LowR b) (k : Nat) : jT (jS a b k) = .ok (decide (k < a.length ∧ k < b.length ∧ a[a.length - 1 - k]? = (b[k]?).map neg)) (jS a b k) := by
  have t1 : mTestB (mBin ltD (mVar 2) (mCB minD (mCons (mLst (mCons (mCB lenD (mCons (mVar 0) (mNil))) (mCons (mCB lenD (mCons (mVar 1) (mNil))) (mNil)))) (mNil)))) (jS a b k) = .ok (decide (k < a.length ∧ k < b.length)) (jS a b k) := by
    have e : decide ((k : Int) < ((min a.length b.length : Nat) : Int)) = decide (k < a.length ∧ k < b.length) := Bool.eq_iff_iff.mpr (by simp; omega)
    have e2 : ltD (.int (k : Int)) (.int ((min a.length b.length : Nat) : Int)) = some (.d (.bl (decide (k < a.length ∧ k < b.length)))) := by rw [← e]; rfl
    simp [jS, len_lst, min_lens, sizeLine, e2]
  unfold jT
  rw [u_andT, t1, u_bok]
  by_cases h : k < a.length ∧ k < b.length
  · rw [decide_eq_true h, if_pos rfl]
    have h0 : a.length - 1 - k < a.length := by omega
    have t2 : (mBin ixD (mVar 0) (mBin subD (mUn negD (mC (.int 1))) (mVar 2))) (jS a b k) = .ok (.d (rD (a[a.length - 1 - k]'h0))) (jS a b k) := by
      simp [jS, negD, subD, rs_neg (i := -1 - (k : Int)) rfl h.1]
    have t3 : (mTup (mCons (mBin ixD (mBin ixD (mVar 1) (mVar 2)) (mC (.int 0))) (mCons (mUn negD (mBin ixD (mBin ixD (mVar 1) (mVar 2)) (mC (.int 1)))) (mNil)))) (jS a b k) = .ok (.d (rD (neg b[k]))) (jS a b k) := by
      simp [jS, rs_at h.2, run_0, run_1, negD, sizeLine]
      rfl
    have e : decide (a[a.length - 1 - k]'h0 = neg b[k]) = decide (k < a.length ∧ k < b.length ∧ a[a.length - 1 - k]? = (b[k]?).map neg) := Bool.eq_iff_iff.mpr (by simp [h.1, h.2, h0])
    rw [ev_test (ev_bin t2 t3 (eqD_run (ha _ (List.getElem_mem _)) (show Low (neg b[k]).1 from (hb b[k] (List.getElem_mem h.2) : Low b[k].1)))), e]
  · have e : decide (k < a.length ∧ k < b.length ∧ a[a.length - 1 - k]? = (b[k]?).map neg) = false := decide_eq_false fun z => h ⟨z.1, z.2.1⟩
    rw [decide_eq_false h, if_neg Bool.false_ne_true, e]
end WW
set_option Elab.async false
set_option maxRecDepth 100000
set_option maxHeartbeats 4000000
namespace WW
open PySem MM FG
section
variable {ρ : List S} {f : Ex} {fs : List Ex}
@[simp] theorem u_row0 (acc : List RV) : mRow [] acc ρ = .ok acc ρ := rfl
@[simp] theorem u_row1 (acc : List RV) : mRow (f :: fs) acc ρ = (f ρ).bind fun rv ρ1 => mRow fs (rv :: acc) ρ1 := rfl
@[simp] theorem u_par (is : List Nat) : sPar is fs ρ = Out.of (mRow fs [] ρ) fun rs ρ1 => Out.of (settles rs ρ1) fun rs' ρ2 => nxO (putRVs is.reverse rs' ρ2) := rfl
@[simp] theorem u_set0 : settles [] ρ = .ok [] ρ := rfl
@[simp] theorem u_set1 (r : RV) (rs : List RV) : settles (r :: rs) ρ = (settles rs ρ).bind fun rs' ρ1 => (settle r ρ1).bind fun r' ρ2 => .ok (r' :: rs') ρ2 := rfl
@[simp] theorem u_stl_d (x : D) : settle (.d x) ρ = .ok (.d x) ρ := rfl
@[simp] theorem u_stl_f (x : D) : settle (.f x) ρ = .ok (.f x) ρ := rfl
@[simp] theorem u_prv0 : putRVs [] [] ρ = some ρ := rfl
@[simp] theorem u_prv1 (i : Nat) (is : List Nat) (r : RV) (rs : List RV) : putRVs (i :: is) (r :: rs) ρ = (putRV i r ρ).bind fun ρ1 => putRVs is rs ρ1 := rfl
end
theorem szl : 100000 ≤ sizeLine := by decide
def JInv (a b : List Rn) (k : Nat) : Prop := k ≤ a.length ∧ k ≤ b.length ∧ b.take k = und (a.drop (a.length - k))
theorem und_cons {x : Rn} {t : List Rn} : und (x :: t) = und t ++ [neg x] := by simp [und]
theorem neg_neg (x : Rn) : neg (neg x) = x := by
  obtain ⟨l, i⟩ := x
  simp [neg]
theorem und_len {w : List Rn} : (und w).length = w.length := by simp [und]
theorem jInv_step {a b : List Rn} {k : Nat} (h : JInv a b k) (h1 : k < a.length) (h2 : k < b.length) (e : a[a.length - 1 - k]? = (b[k]?).map neg) : JInv a b (k + 1) := by
  refine ⟨h1, h2, ?_⟩
  have h0 : a.length - 1 - k < a.length := by omega
  rw [List.getElem?_eq_getElem h0, List.getElem?_eq_getElem h2] at e
  have e' : a[a.length - 1 - k]'h0 = neg b[k] := by simpa using e
  have d : a.drop (a.length - (k + 1)) = a[a.length - 1 - k]'h0 :: a.drop (a.length - k) := by
    have q : a.length - (k + 1) = a.length - 1 - k := by omega
    rw [q, List.drop_eq_getElem_cons h0]
    congr 2
    omega
  rw [d, und_cons, ← h.2.2, e', neg_neg, List.take_succ_eq_append_getElem h2]
theorem jLoop {a b : List Rn} (la : LowR a) (lb : LowR b) (ha : a.length ≤ 50000) : ∃ k, whileM jT jM 100000 (jS a b 0) = .nx (jS a b k) ∧ JInv a b k ∧ ¬ (k < a.length ∧ k < b.length ∧ a[a.length - 1 - k]? = (b[k]?).map neg) := by
  refine whileM_do (jS a b) (fun k => a.length - k) (JInv a b) (fun k => ¬ (k < a.length ∧ k < b.length ∧ a[a.length - 1 - k]? = (b[k]?).map neg)) (fun k hk => ?_) 100000 0 ⟨by omega, by omega, by simp [und]⟩ (by omega)
  by_cases q : k < a.length ∧ k < b.length ∧ a[a.length - 1 - k]? = (b[k]?).map neg
  · refine .inl ⟨by rw [jT_ok la lb, decide_eq_true q], k + 1, ?_, jInv_step hk q.1 q.2.1 q.2.2, by omega⟩
    simp [jM, jS, addD]
  · exact .inr ⟨by rw [jT_ok la lb, decide_eq_false q], q⟩
def jS2 (a b : List Rn) (k : Nat) : List S := [.d (.lst (rs a)), .d (.lst (rs b)), .d (.int (k : Int)), .o (.lst (rs (a.take (a.length - k)))), .o (.lst (rs (b.drop k)))]
def jP : Sm := sPar [3, 4] [mSlice sliceD (mVar 0) (mNoPart) (mPart (mBin subD (mCB lenD (mCons (mVar 0) (mNil))) (mVar 2))), mSlice sliceD (mVar 1) (mPart (mVar 2)) (mNoPart)]
theorem jP_ok {a b : List Rn} {k : Nat} (ha : k ≤ a.length) (hb : k ≤ b.length) : jP (jS a b k) = .nx (jS2 a b k) := by
  have e1 : (a.length : Int) - (k : Int) = ((a.length - k : Nat) : Int) := by omega
  have s1 : sliceD (.lst (rs a)) none (some ((a.length : Int) - (k : Int))) = some (.f (.lst (rs (a.take (a.length - k))))) := by
    show some (RV.f (.lst (cutL (rs a) none (some ((a.length : Int) - (k : Int)))))) = _
    rw [e1, cut_hi (by rw [rs_len]; omega)]
    simp [rs]
  have s2 : sliceD (.lst (rs b)) (some (k : Int)) none = some (.f (.lst (rs (b.drop k)))) := by
    show some (RV.f (.lst (cutL (rs b) (some (k : Int)) none))) = _
    rw [cut_lo (by rw [rs_len]; omega)]
    simp [rs]
  simp [jP, jS, jS2, len_lst, subD, s1, s2]
def jB : Sm := (sIf (mOrT (mTestB (mBin eqD (mCB lenD (mCons (mVar 3) (mNil))) (mC (.int 0)))) (mOrT (mTestB (mBin eqD (mCB lenD (mCons (mVar 4) (mNil))) (mC (.int 0)))) (mTestB (mBin neD (mBin ixD (mBin ixD (mVar 3) (mUn negD (mC (.int 1)))) (mC (.int 0))) (mBin ixD (mBin ixD (mVar 4) (mC (.int 0))) (mC (.int 0))))))) (sRet (mLst (mStar (mVar 3) (mStar (mVar 4) (mNil))))) (sNext))
def jE : Sm := (sRet (mLst (mStar (mSlice sliceD (mVar 3) (mNoPart) (mPart (mUn negD (mC (.int 1))))) (mCons (mTup (mCons (mBin ixD (mBin ixD (mVar 4) (mC (.int 0))) (mC (.int 0))) (mCons (mBin addD (mBin ixD (mBin ixD (mVar 3) (mUn negD (mC (.int 1)))) (mC (.int 1))) (mBin ixD (mBin ixD (mVar 4) (mC (.int 0))) (mC (.int 1)))) (mNil)))) (mStar (mSlice sliceD (mVar 4) (mPart (mC (.int 1))) (mNoPart)) (mNil))))))
theorem b_joint_eq : b_joint = sSeq (sSet 2 (mC (.int 0))) (sSeq (whileM jT jM 100000) (sSeq jP (sSeq jB jE))) := rfl
def jS3 (l r : List Rn) (x y z : D) : List S := [.d x, .d y, .d z, .o (.lst (rs l)), .o (.lst (rs r))]
theorem neD_lt {a b : Lt} : neD (.str a) (.str b) = some (.d (.bl (!decide (a = b)))) := by
  show some (RV.d (.bl (!(a == b)))) = _
  by_cases h : a = b <;> simp [h]
theorem eqD_lt {a b : Lt} : eqD (.str a) (.str b) = some (.d (.bl (decide (a = b)))) := by
  show some (RV.d (.bl (a == b))) = _
  by_cases h : a = b <;> simp [h]
theorem force_all (ρ : List S) : ∀ xs : List D, forceHs (xs.map HV.d) ρ = .ok xs ρ
  | [] => rfl
  | x :: xs => by simp [force_all ρ xs]
theorem rs_last {l : List Rn} {x : Rn} : ixD (.lst (rs (l ++ [x]))) (.int (-1)) = some (.d (rD x)) := by
  rw [rs_neg (w := l ++ [x]) (i := -1) (k := 0) rfl (by simp)]
  simp
theorem rs_first {r : List Rn} {y : Rn} : ixD (.lst (rs (y :: r))) (.int 0) = some (.d (rD y)) := by
  rw [show (0 : Int) = ((0 : Nat) : Int) from rfl, rs_at (w := y :: r) (k := 0) (by simp)]
  simp
theorem jB_end {l r : List Rn} {p q z : D} (hz : l.length + r.length ≤ sizeLine) (h : (l = [] ∨ r = []) ∨ ∃ l' x y r', l = l' ++ [x] ∧ r = y :: r' ∧ x.1 ≠ y.1 ∧ Low x.1 ∧ Low y.1) : ∃ ρ, jB (jS3 l r p q z) = .rt (.f (.lst (rs (l ++ r)))) ρ := by
  have go : mOrT (mTestB (mBin eqD (mCB lenD (mCons (mVar 3) (mNil))) (mC (.int 0)))) (mOrT (mTestB (mBin eqD (mCB lenD (mCons (mVar 4) (mNil))) (mC (.int 0)))) (mTestB (mBin neD (mBin ixD (mBin ixD (mVar 3) (mUn negD (mC (.int 1)))) (mC (.int 0))) (mBin ixD (mBin ixD (mVar 4) (mC (.int 0))) (mC (.int 0)))))) (jS3 l r p q z) = .ok true (jS3 l r p q z) := by
    rcases h with h | ⟨l', x, y, r', rfl, rfl, hne, lx, ly⟩
    · rcases h with rfl | rfl
      · simp [jS3, len_lst, eqD_int]
      · simp [jS3, len_lst, eqD_int]
    · have e1 : ((l'.length : Int) + 1 = 0) = False := by simp; omega
      have e2 : ((r'.length : Int) + 1 = 0) = False := by simp; omega
      simp [jS3, len_lst, eqD_int, negD, rs_last, rs_first, run_0, neD_lt, hne, e1, e2]
  unfold jB
  rw [ev_if go, if_pos rfl]
  have ez : (rs l).length + (rs r).length ≤ sizeLine := by simpa using hz
  refine ⟨[.d p, .d q, .d z, .d (.lst (rs l)), .d (.lst (rs r))], ?_⟩
  simp [jS3, seqL, forceRV]
  rw [← List.map_append, force_all]
  simp [hz, rs_app]
theorem jB_go {l' r' : List Rn} {x y : Rn} {p q z : D} (he : x.1 = y.1) (lx : Low x.1) : jB (jS3 (l' ++ [x]) (y :: r') p q z) = .nx (jS3 (l' ++ [x]) (y :: r') p q z) := by
  have e1 : ((l'.length : Int) + 1 = 0) = False := by simp; omega
  have e2 : ((r'.length : Int) + 1 = 0) = False := by simp; omega
  simp [jB, jS3, len_lst, eqD_int, negD, rs_last, rs_first, run_0, neD_lt, he, e1, e2]
theorem jE_ok {l' r' : List Rn} {x y : Rn} {p q z : D} (hz : l'.length + r'.length + 1 ≤ sizeLine) : ∃ ρ, jE (jS3 (l' ++ [x]) (y :: r') p q z) = .rt (.f (.lst (rs (l' ++ (y.1, x.2 + y.2) :: r')))) ρ := by
  have s1 : sliceD (.lst (rs (l' ++ [x]))) none (some (-1)) = some (.f (.lst (rs l'))) := by
    show some (RV.f (.lst (cutL (rs (l' ++ [x])) none (some (-1))))) = _
    rw [cut_last]
    simp [rs]
  have s2 : sliceD (.lst (rs (y :: r'))) (some 1) none = some (.f (.lst (rs r'))) := by
    show some (RV.f (.lst (cutL (rs (y :: r')) (some ((1 : Nat) : Int)) none))) = _
    rw [cut_lo (by simp)]
    simp [rs]
  have tz : 2 ≤ sizeLine := by decide
  refine ⟨jS3 (l' ++ [x]) (y :: r') p q z, ?_⟩
  simp [jE, jS3, negD, rs_last, rs_first, run_0, run_1, s1, s2, seqL, addD, tz]
  rw [show List.map HV.d (rs l') ++ HV.d (D.tup [D.str y.1, D.int (x.2 + y.2)]) :: List.map HV.d (rs r') = (rs (l' ++ (y.1, x.2 + y.2) :: r')).map HV.d from by simp [rs, rD], force_all]
  have ez : l'.length + (r'.length + 1) ≤ sizeLine := by omega
  simp [rs_app, ez]
theorem joint_ok {a b : List Rn} (ha : Red a) (hb : Red b) (la : LowR a) (lb : LowR b) (za : a.length ≤ 50000) (zb : b.length ≤ 50000) : ∃ ρ, m_joint [.d (.lst (rs a)), .d (.lst (rs b))] = .rt (.f (.lst (rs (nf (a ++ b))))) ρ := by
  have hsz := szl
  obtain ⟨k, e1, ⟨k1, k2, k3⟩, kf⟩ := jLoop la lb za
  have ea : a = a.take (a.length - k) ++ a.drop (a.length - k) := (List.take_append_drop _ _).symm
  have eb : b = und (a.drop (a.length - k)) ++ b.drop k := by rw [← k3, List.take_append_drop]
  have ra : Red (a.take (a.length - k)) := (red_app.mp (ea ▸ ha)).1
  have rb : Red (b.drop k) := (red_app.mp (eb ▸ hb)).2.1
  have run : ∀ o, (jB (jS2 a b k) = o ∧ (∀ ρ, o ≠ .nx ρ)) ∨ (∃ ρ1, jB (jS2 a b k) = .nx ρ1 ∧ jE ρ1 = o) → b_joint [.d (.lst (rs a)), .d (.lst (rs b)), .un, .un, .un] = o := fun o ho => by
    rw [b_joint_eq]
    have i0 : sSet 2 (mC (.int 0)) [S.d (.lst (rs a)), .d (.lst (rs b)), .un, .un, .un] = .nx (jS a b 0) := by simp [jS]
    rw [seq_nx i0, seq_nx e1, seq_nx (jP_ok k1 k2)]
    rcases ho with ⟨h, n⟩ | ⟨ρ1, h1, h2⟩
    · rw [u_seq, h]
      cases o with
      | nx ρ => exact absurd rfl (n ρ)
      | _ => rfl
    · rw [seq_nx h1, h2]
  have js : jS2 a b k = jS3 (a.take (a.length - k)) (b.drop k) (.lst (rs a)) (.lst (rs b)) (.int k) := rfl
  have zl : (a.take (a.length - k)).length + (b.drop k).length ≤ sizeLine := by simp; omega
  by_cases hc : (a.take (a.length - k) = [] ∨ b.drop k = []) ∨ ∃ l' x y r', a.take (a.length - k) = l' ++ [x] ∧ b.drop k = y :: r' ∧ x.1 ≠ y.1 ∧ Low x.1 ∧ Low y.1
  · obtain ⟨ρ, e⟩ := jB_end (p := .lst (rs a)) (q := .lst (rs b)) (z := .int k) zl hc
    have m : nf (a ++ b) = a.take (a.length - k) ++ b.drop k := by
      conv => lhs; rw [ea, eb]
      refine meet ra rb ?_
      rcases hc with (h | h) | ⟨l', x, y, r', h1, h2, h3, _⟩
      · exact .inl h
      · exact .inr (.inl h)
      · refine .inr (.inr fun u v hu hv => ?_)
        rw [h1] at hu
        rw [h2] at hv
        simp at hu hv
        rw [← hu, ← hv]
        exact h3
    refine ⟨ρ, fn_eval _ rfl (run _ (.inl ⟨by rw [js, e], fun _ => by simp⟩)) ?_⟩
    rw [m]
    rfl
  · have n1 : a.take (a.length - k) ≠ [] := fun z => hc (.inl (.inl z))
    have n2 : b.drop k ≠ [] := fun z => hc (.inl (.inr z))
    obtain ⟨l', x, ex⟩ : ∃ l' x, a.take (a.length - k) = l' ++ [x] := ⟨_, _, (List.dropLast_concat_getLast n1).symm⟩
    obtain ⟨y, r', ey⟩ := List.exists_cons_of_ne_nil n2
    have mx : x ∈ a := List.mem_of_mem_take (by rw [ex]; simp)
    have my : y ∈ b := List.mem_of_mem_drop (by rw [ey]; simp)
    have he : x.1 = y.1 := Classical.byContradiction fun z => hc (.inr ⟨l', x, y, r', ex, ey, z, la x mx, lb y my⟩)
    have hl : l'.length + 1 = a.length - k := by
      have := congrArg List.length ex
      simp at this
      omega
    have hr : r'.length + 1 = b.length - k := by
      have := congrArg List.length ey
      simp at this
      omega
    have hs : x.2 + y.2 ≠ 0 := fun z => kf ⟨by omega, by omega, by
      have q1 : a[a.length - 1 - k]? = some x := by
        have : (a.take (a.length - k))[a.length - 1 - k]? = some x := by
          rw [ex, show a.length - 1 - k = l'.length by omega]
          simp
        rw [List.getElem?_take] at this
        rwa [if_pos (by omega)] at this
      have q2 : b[k]? = some y := by
        have : (b.drop k)[0]? = some y := by rw [ey]; rfl
        simpa using this
      rw [q1, q2]
      refine congrArg some (Prod.ext he ?_)
      show x.2 = -y.2
      omega⟩
    obtain ⟨ρ, e⟩ := jE_ok (l' := l') (r' := r') (x := x) (y := y) (p := .lst (rs a)) (q := .lst (rs b)) (z := .int k) (by omega)
    have m : nf (a ++ b) = l' ++ (y.1, x.2 + y.2) :: r' := by
      conv => lhs; rw [ea, eb]
      rw [ex, ey]
      exact meet2 (ex ▸ ra) (ey ▸ rb) he hs
    refine ⟨ρ, fn_eval _ rfl (run _ (.inr ⟨_, by rw [js, ex, ey]; exact jB_go he (la x mx), e⟩)) ?_⟩
    rw [m]
    rfl
end WW
set_option Elab.async false
set_option maxRecDepth 100000
set_option maxHeartbeats 4000000
namespace WW
open PySem MM FG
/-! ### a row of runs, as a list or a tuple -/
def Sq (x : D) (w : List Rn) : Prop := x = .lst (rs w) ∨ x = .tup (rs w)
theorem Sq.items {x : D} {w : List Rn} (h : Sq x w) : itemsD x = some (rs w) := by rcases h with rfl | rfl <;> rfl
theorem Sq.len {x : D} {w : List Rn} (h : Sq x w) : lenD [x] = some (.d (.int (w.length : Int))) := by
  rcases h with rfl | rfl <;> simp [len_lst, len_tup]
theorem Sq.tup {x : D} {w : List Rn} (h : Sq x w) : tupleD [x] = some (.d (.tup (rs w))) := by rcases h with rfl | rfl <;> rfl
theorem Sq.lst {x : D} {w : List Rn} (h : Sq x w) : listD [x] = some (.f (.lst (rs w))) := by rcases h with rfl | rfl <;> rfl
theorem Sq.take {x : D} {w : List Rn} (h : Sq x w) {j : Nat} (hj : j ≤ w.length) : ∃ rv y, sliceD x none (some (j : Int)) = some rv ∧ (rv = .d y ∨ rv = .f y) ∧ Sq y (w.take j) := by
  have e : cutL (rs w) none (some (j : Int)) = rs (w.take j) := by rw [cut_hi (by rw [rs_len]; exact hj)]; simp [rs]
  rcases h with rfl | rfl
  · exact ⟨_, _, by show some (RV.f (.lst (cutL (rs w) none (some (j : Int))))) = _; rw [e], .inr rfl, .inl rfl⟩
  · exact ⟨_, _, by show some (RV.d (.tup (cutL (rs w) none (some (j : Int))))) = _; rw [e], .inl rfl, .inr rfl⟩
theorem Sq.drop {x : D} {w : List Rn} (h : Sq x w) {j : Nat} (hj : j ≤ w.length) : ∃ rv y, sliceD x (some (j : Int)) none = some rv ∧ (rv = .d y ∨ rv = .f y) ∧ Sq y (w.drop j) := by
  have e : cutL (rs w) (some (j : Int)) none = rs (w.drop j) := by rw [cut_lo (by rw [rs_len]; exact hj)]; simp [rs]
  rcases h with rfl | rfl
  · exact ⟨_, _, by show some (RV.f (.lst (cutL (rs w) (some (j : Int)) none))) = _; rw [e], .inr rfl, .inl rfl⟩
  · exact ⟨_, _, by show some (RV.d (.tup (cutL (rs w) (some (j : Int)) none))) = _; rw [e], .inl rfl, .inr rfl⟩
theorem Sq.rev {x : D} {w : List Rn} (h : Sq x w) : ∃ rv y, revD x = some rv ∧ (rv = .d y ∨ rv = .f y) ∧ Sq y w.reverse := by
  have e : (rs w).reverse = rs w.reverse := by simp [rs]
  rcases h with rfl | rfl
  · exact ⟨_, _, by show some (RV.f (.lst (rs w).reverse)) = _; rw [e], .inr rfl, .inl rfl⟩
  · exact ⟨_, _, by show some (RV.d (.tup (rs w).reverse)) = _; rw [e], .inl rfl, .inr rfl⟩
theorem hd_of {f : Ex} {ρ : List S} {rv : RV} {y : D} (h : f ρ = .ok rv ρ) (e : rv = .d y ∨ rv = .f y) : Hd f ρ y := by
  rcases e with rfl | rfl
  · exact hd_d h
  · exact hd_f h
/-! ### shortened -/
theorem nf_short {w : List Rn} (h : w.length < 2) : w.filter (fun x => decide (x.2 ≠ 0)) = nf w := by
  match w, h with
  | [], _ => rfl
  | [x], _ =>
    show _ = ins x []
    unfold ins
    by_cases q : x.2 = 0 <;> simp [q]
theorem shortened_ok : ∀ (n : Nat) (w : List Rn) (x : D), w.length ≤ 2 ^ n → w.length ≤ 50000 → LowR w → Sq x w → Ans (mm_shortened (n + 1)) [x] (.f (.lst (rs (nf w))))
  | n, w, x, h1, h2, lw, hx => by
    have hz := szl
    have hv0 : Hd (mVar 0) [.d x, .un, .un] x := rfl
    have t0 : mTestB (mBin ltD (mCB lenD (mCons (mVar 0) (mNil))) (mC (.int 2))) [.d x, .un, .un] = .ok (decide (w.length < 2)) [.d x, .un, .un] := by
      refine p_test ?_
      rw [p_bin (hd_d (p_cb (.one hv0) hx.len)) p_c (rv := .d (.bl (decide (w.length < 2)))) ?_]
      show some (RV.d (.bl (decide ((w.length : Int) < 2)))) = _
      congr 3
      exact decide_eq_decide.mpr (by omega)
    by_cases q : w.length < 2
    · have e : (mLc (mItems (mVar 0)) (.nm 2) [2] (mTestB (mBin neD (mBin ixD (mVar 2) (mC (.int 1))) (mC (.int 0)))) (mVar 2)) [.d x, .un, .un] = .ok (.f (.lst ((w.filter fun x => decide (x.2 ≠ 0)).map rD))) [.d x, .un, .un] := by
        refine mlc_map (ρw := [.d x, .un, .un]) rD (fun x => decide (x.2 ≠ 0)) rD (fun r => [.d x, .un, .d (rD r)]) w (p_items hv0 hx.items) rfl rfl rfl (fun _ => rfl) (by omega) fun r hr => ⟨by simp, ?_, fun _ => rfl⟩
        refine p_test ?_
        rw [p_bin (hd_d (p_bin (p_var (i := 2) (x := rD r) rfl) p_c run_1)) p_c (neD_int (i := r.2) (j := 0))]
        simp
      refine ⟨_, fn_eval (b := b_shortened (mm_shortened n)) [.d x, .un, .un] rfl (rv := .f (.lst (rs (nf w)))) (ρ1 := [.d x, .un, .un]) ?_ rfl⟩
      unfold b_shortened
      rw [u_seq, ev_if t0, decide_eq_true q, if_pos rfl, u_sret, e, nf_short q]
      rfl
    · cases n with
      | zero => simp at h1; omega
      | succ n =>
        have hm : w.length / 2 ≤ w.length := Nat.div_le_self _ _
        have p2 : 2 ^ (n + 1) = 2 * 2 ^ n := by rw [Nat.pow_succ, Nat.mul_comm]
        obtain ⟨rv1, y1, a1, a2, a3⟩ := hx.take hm
        obtain ⟨rv2, y2, b1, b2, b3⟩ := hx.drop hm
        have i1 := shortened_ok n (w.take (w.length / 2)) y1 (by rw [List.length_take]; omega) (by rw [List.length_take]; omega) (lw.sub fun z hz => List.mem_of_mem_take hz) a3
        have i2 := shortened_ok n (w.drop (w.length / 2)) y2 (by rw [List.length_drop]; omega) (by rw [List.length_drop]; omega) (lw.sub fun z hz => List.mem_of_mem_drop hz) b3
        have l1 := nf_len (w := w.take (w.length / 2))
        have l2 := nf_len (w := w.drop (w.length / 2))
        rw [List.length_take] at l1
        rw [List.length_drop] at l2
        have j := joint_ok (nf_red (w := w.take (w.length / 2))) (nf_red (w := w.drop (w.length / 2))) (LowR.nf (lw.sub fun z hz => List.mem_of_mem_take hz)) (LowR.nf (lw.sub fun z hz => List.mem_of_mem_drop hz)) (by omega) (by omega)
        rw [nf_app_nf, List.take_append_drop] at j
        refine ⟨_, fn_eval (b := b_shortened (mm_shortened (n + 1))) [.d x, .un, .un] rfl (rv := .f (.lst (rs (nf w)))) (ρ1 := [.d x, .d (.int ((w.length / 2 : Nat) : Int)), .un]) ?_ rfl⟩
        unfold b_shortened
        rw [u_seq, ev_if t0, decide_eq_false q, if_neg Bool.false_ne_true]
        dsimp only [u_next]
        have e3 : (mBin fdivD (mCB lenD (mCons (mVar 0) (mNil))) (mC (.int 2))) [.d x, .un, .un] = .ok (.d (.int ((w.length / 2 : Nat) : Int))) [.d x, .un, .un] := by
          refine p_bin (hd_d (p_cb (.one hv0) hx.len)) p_c ?_
          show (if (0 : Int) < 2 ∧ (2 : Int).natAbs.log2 < 9000 then some (RV.d (.int ((w.length : Int) / 2))) else none) = _
          rw [if_pos ⟨by decide, by decide⟩]
          simp
        have e4 : sSet 1 (mBin fdivD (mCB lenD (mCons (mVar 0) (mNil))) (mC (.int 2))) [.d x, .un, .un] = .nx [.d x, .d (.int ((w.length / 2 : Nat) : Int)), .un] := by
          rw [u_set, e3]
          rfl
        rw [seq_nx e4, u_sret]
        have v0 : Hd (mVar 0) [.d x, .d (.int ((w.length / 2 : Nat) : Int)), .un] x := rfl
        have v1 : mVar 1 [.d x, .d (.int ((w.length / 2 : Nat) : Int)), .un] = .ok (.d (.int ((w.length / 2 : Nat) : Int))) [.d x, .d (.int ((w.length / 2 : Nat) : Int)), .un] := rfl
        have s1 := p_slice v0 (l := mNoPart) rfl (p_part v1) a1
        have s2 := p_slice v0 (u := mNoPart) (p_part v1) rfl b1
        have c1 := p_call (n := 1) (.one (hd_of s1 a2)) rfl i1
        have c2 := p_call (n := 1) (.one (hd_of s2 b2)) rfl i2
        have c3 := p_call (n := 2) (m := m_joint) (.two (hd_f c1) (hd_f c2)) rfl j
        rw [c3]
        rfl
theorem short_ok {w : List Rn} {x : D} (h : w.length ≤ 32768) (lw : LowR w) (hx : Sq x w) : Ans m_shortened [x] (.f (.lst (rs (nf w)))) := shortened_ok 15 w x h (by omega) lw hx
/-! ### the word made -/
theorem init_un {s : Lt} {x : D} {w : List Rn} (h : w.length ≤ 32768) (lw : LowR w) (hx : Sq x w) (hn : (nf w).length ≤ 200) : Made m_Word___init__ "Word" [.str s, x, .bl false] (wd s (nf w)) := by
  obtain ⟨ρf, e⟩ := short_ok h lw hx
  refine ⟨[.p (wd s (nf w)), .d (.str s), .d x, .d (.bl false)], fn_evalN [.p (.ins "Word" []), .d (.str s), .d x, .d (.bl false)] rfl ?_, rfl⟩
  unfold b_Word___init__
  have e0 : sIf (mTruth (mVar 3)) (sSeq (sExpr (mCall 1 m_require_letters (mCons (mVar 1) (mNil)))) (sExpr (mCall 2 m_require_runs (mCons (mVar 1) (mCons (mVar 2) (mNil)))))) (sNext) [.p (.ins "Word" []), .d (.str s), .d x, .d (.bl false)] = .nx [.p (.ins "Word" []), .d (.str s), .d x, .d (.bl false)] := rfl
  rw [seq_nx e0]
  have e1 : sFldSet ["Word"] 0 "own_letters" (mVar 1) [.p (.ins "Word" []), .d (.str s), .d x, .d (.bl false)] = .nx [.p (.ins "Word" [("own_letters", .str s)]), .d (.str s), .d x, .d (.bl false)] := rfl
  rw [seq_nx e1]
  have c : (mCB tupleD (mCons (mCall 1 m_shortened (mCons (mVar 2) (mNil))) (mNil))) [.p (.ins "Word" [("own_letters", .str s)]), .d (.str s), .d x, .d (.bl false)] = .ok (.d (.tup (rs (nf w)))) [.p (.ins "Word" [("own_letters", .str s)]), .d (.str s), .d x, .d (.bl false)] :=
    p_cb (.one (hd_f (p_call (n := 1) (m := m_shortened) (xs := [x]) (.one rfl) rfl ⟨ρf, e⟩))) rfl
  have e2 : sFldSet ["Word"] 0 "own_runs" (mCB tupleD (mCons (mCall 1 m_shortened (mCons (mVar 2) (mNil))) (mNil))) [.p (.ins "Word" [("own_letters", .str s)]), .d (.str s), .d x, .d (.bl false)] = .nx [.p (wd s (nf w)), .d (.str s), .d x, .d (.bl false)] := by
    unfold sFldSet
    rw [(hd_d c).force]
    rfl
  rw [seq_nx e2]
  have t : mTestB (mBin gtD (mCB lenD (mCons (mFld ["Word"] "own_runs" (mVar 0)) (mNil))) (mC (.int 200))) [.p (wd s (nf w)), .d (.str s), .d x, .d (.bl false)] = .ok false [.p (wd s (nf w)), .d (.str s), .d x, .d (.bl false)] := by
    have f0 : (mFld ["Word"] "own_runs" (mVar 0)) [.p (wd s (nf w)), .d (.str s), .d x, .d (.bl false)] = .ok (.d (.tup (rs (nf w)))) [.p (wd s (nf w)), .d (.str s), .d x, .d (.bl false)] := rfl
    refine p_test ?_
    rw [p_bin (hd_d (p_cb (.one (hd_d f0)) len_tup)) p_c (rv := .d (.bl false)) ?_]
    rw [rs_len]
    show some (RV.d (.bl (decide ((200 : Int) < (nf w).length)))) = _
    rw [decide_eq_false (by omega)]
  rw [ev_if t, if_neg Bool.false_ne_true]
  rfl
end WW
set_option Elab.async false
set_option maxRecDepth 100000
set_option maxHeartbeats 4000000
namespace WW
open PySem MM FG
/-- a word's runs: at most 200, reduced -/
structure Wd (w : List Rn) : Prop where
  red : Red w
  low : LowR w
  len : w.length ≤ 200
theorem Wd.und {w : List Rn} (h : Wd w) : Wd (FG.und w) := ⟨und_red h.red, fun x hx => by
  obtain ⟨y, hy, rfl⟩ := List.mem_map.mp hx
  exact h.low y (List.mem_reverse.mp hy), by rw [und_len]; exact h.len⟩
theorem LowR.und {w : List Rn} (h : LowR w) : LowR (FG.und w) := fun x hx => by
  obtain ⟨y, hy, rfl⟩ := List.mem_map.mp hx
  exact h y (List.mem_reverse.mp hy)
theorem Wd.nf {w : List Rn} (h : LowR w) (hn : (FG.nf w).length ≤ 200) : Wd (FG.nf w) := ⟨nf_red, h.nf, hn⟩
theorem fld_l {s : Lt} {w : List Rn} {a : Ex} {ρ : List S} (h : Hd a ρ (wd s w)) : mFld ["Word"] "own_letters" a ρ = .ok (.d (.str s)) ρ := p_fld h rfl rfl
theorem fld_r {s : Lt} {w : List Rn} {a : Ex} {ρ : List S} (h : Hd a ρ (wd s w)) : mFld ["Word"] "own_runs" a ρ = .ok (.d (.tup (rs w))) ρ := p_fld h rfl rfl
/-! ### made, undone_runs -/
theorem makeK_ok {s : Lt} {x : D} {w : List Rn} {r : List S → R (List HV)} {ρ : List S} (h : w.length ≤ 32768) (lw : LowR w) (hx : Sq x w) (hn : (nf w).length ≤ 200) (hr : Hds r ρ [.str s, x]) : mMakeK 4 "Word" m_Word___init__ 2 1 r (mCons (mC (.bl false)) (mNil)) ρ = .ok (.f (wd s (nf w))) ρ :=
  p_makeK (ys := [.bl false]) hr (.one p_c) rfl rfl rfl (init_un h lw hx hn)
theorem made_ok {s : Lt} {x : D} {w : List Rn} (h : w.length ≤ 32768) (lw : LowR w) (hx : Sq x w) (hn : (nf w).length ≤ 200) : Ans m_Word_made [.str s, x] (.f (wd s (nf w))) := by
  refine ⟨_, fn_eval (b := b_Word_made) [.d (.str s), .d x] rfl (rv := .f (wd s (nf w))) (ρ1 := [.d (.str s), .d x]) ?_ rfl⟩
  exact ev_ret (makeK_ok h lw hx hn (.two rfl rfl))
theorem undone_ok {x : D} {w : List Rn} (hl : w.length ≤ 50000) (hx : Sq x w) : Ans m_undone_runs [x] (.f (.lst (rs (und w)))) := by
  have hz := szl
  obtain ⟨rv, y, e1, e2, e3⟩ := hx.rev
  refine ⟨_, fn_eval (b := b_undone_runs) [.d x, .un, .un] rfl (rv := .f (.lst (rs (und w)))) (ρ1 := [.d x, .un, .un]) ?_ rfl⟩
  unfold b_undone_runs
  have i : mItems (mUn revD (mVar 0)) [.d x, .un, .un] = .ok (w.reverse.map rD) [.d x, .un, .un] := p_items (hd_of (p_un rfl e1) e2) e3.items
  rw [u_sret, mlc_all (ρw := [.d x, .un, .un]) (y := fun r : Rn => rD (neg r)) (st := fun r => [.d x, .d (.str r.1), .d (.int r.2)]) rD w.reverse i rfl rfl rfl (fun _ => rfl) (by rw [List.length_reverse]; omega) fun r _ => ⟨by simp [rD], hd_d (p_tup (xs := [.str r.1, .int (-r.2)]) (.two (p_var rfl) (hd_d (p_un (p_var (i := 2) (x := .int r.2) rfl) rfl))) (by simp; omega))⟩]
  simp [rs, und]
/-! ### what a word does -/
theorem neD_same {a : Lt} : neD (.str a) (.str a) = some (.d (.bl false)) := by
  rw [neD_lt]
  simp
theorem eqD_same {a : Lt} : eqD (.str a) (.str a) = some (.d (.bl true)) := by
  rw [eqD_lt]
  simp
theorem same_ok {s : Lt} {a b : List Rn} : Ans m_require_same [wd s a, wd s b] (.d .non) := by
  have w1 : ∀ w, Ans m_require_word [wd s w] (.d .non) := fun w => ⟨_, fn_evalN (b := b_require_word) [.d (wd s w)] rfl (ρ1 := [.d (wd s w)]) (by
    unfold b_require_word
    have t : mNotT (mTruth (mIsC ["Word"] "Word" (mVar 0))) [.d (wd s w)] = .ok false [.d (wd s w)] := rfl
    rw [ev_if t, if_neg Bool.false_ne_true]
    rfl)⟩
  refine ⟨_, fn_evalN (b := b_require_same) [.d (wd s a), .d (wd s b)] rfl (ρ1 := [.d (wd s a), .d (wd s b)]) ?_⟩
  exact q_seq (q_exp (p_call (.one rfl) rfl (w1 a))) (q_seq (q_exp (p_call (.one rfl) rfl (w1 b))) (q_ifF (p_test (p_bin (hd_d (fld_l rfl)) (hd_d (fld_l rfl)) neD_same)) q_next))
theorem seqT {w : List Rn} : seqL (.tup (rs w)) = some (rs w) := rfl
theorem seqLs {w : List Rn} : seqL (.lst (rs w)) = some (rs w) := rfl
theorem mul_ok {s : Lt} {a b : List Rn} (ha : Wd a) (hb : Wd b) (hn : (nf (a ++ b)).length ≤ 200) : Ans m_Word___mul__ [wd s a, wd s b] (.f (wd s (nf (a ++ b)))) := by
  have hz := szl
  have l1 := ha.len
  have l2 := hb.len
  refine ⟨_, fn_eval (b := b_Word___mul__) [.d (wd s a), .d (wd s b)] rfl (rv := .f (wd s (nf (a ++ b)))) (ρ1 := [.d (wd s a), .d (wd s b)]) ?_ rfl⟩
  have l : (mLst (mStar (mFld ["Word"] "own_runs" (mVar 0)) (mStar (mFld ["Word"] "own_runs" (mVar 1)) (mNil)))) [.d (wd s a), .d (wd s b)] = .ok (.f (.lst (rs (a ++ b)))) [.d (wd s a), .d (wd s b)] := by
    have := p_lst (.star (hd_d (fld_r (ρ := [.d (wd s a), .d (wd s b)]) (a := mVar 0) (s := s) (w := a) rfl)) seqT (.star (hd_d (fld_r (a := mVar 1) (s := s) (w := b) rfl)) seqT .nil)) (by simp; omega)
    rwa [List.append_nil, ← rs_app] at this
  exact q_seq (q_ifF (p_orF rfl (p_test (p_bin (hd_d (fld_l rfl)) (hd_d (fld_l rfl)) neD_same))) q_next) (ev_ret (makeK_ok (by rw [List.length_append]; omega) (ha.low.app hb.low) (.inl rfl) hn (.two (hd_d (fld_l rfl)) (hd_f l))))
theorem inv_ok {s : Lt} {a : List Rn} (ha : Wd a) : Ans m_Word___invert__ [wd s a] (.f (wd s (und a))) := by
  have hz := szl
  have l1 := ha.len
  have e : nf (und a) = und a := nf_self (und_red ha.red)
  refine ⟨_, fn_eval (b := b_Word___invert__) [.d (wd s a)] rfl (rv := .f (wd s (und a))) (ρ1 := [.d (wd s a)]) ?_ rfl⟩
  have l := p_call (n := 1) (m := m_undone_runs) (ρ := [.d (wd s a)]) (.one (hd_d (fld_r (a := mVar 0) (s := s) (w := a) rfl))) rfl (undone_ok (by omega) (.inr rfl))
  have z : (und a).length ≤ 200 := by rw [und_len]; omega
  have k : mMakeK 4 "Word" m_Word___init__ 2 1 _ _ [.d (wd s a)] = .ok (.f (wd s (nf (und a)))) [.d (wd s a)] := makeK_ok (w := und a) (by omega) ha.low.und (.inl rfl) (by rw [e]; omega) (.two (hd_d (fld_l (a := mVar 0) (s := s) (w := a) rfl)) (hd_f l))
  rw [e] at k
  exact ev_ret k
theorem runs_ok {s : Lt} {a : List Rn} : Ans m_Word_runs [wd s a] (.d (.tup (rs a))) := ⟨_, rfl⟩
theorem eqvs_rs : ∀ a b : List Rn, D.eqvs (rs a) (rs b) = decide (a = b)
  | [], [] => rfl
  | [], _ :: _ => rfl
  | _ :: _, [] => rfl
  | x :: a, y :: b => by
    have e2 : D.eqv (rD x) (rD y) = decide (x = y) := by
      obtain ⟨a, i⟩ := x
      obtain ⟨b, j⟩ := y
      show ((a == b) && ((i == j) && true)) = _
      by_cases h1 : a = b <;> by_cases h2 : i = j <;> simp [h1, h2]
    show (D.eqv (rD x) (rD y) && D.eqvs (rs a) (rs b)) = _
    rw [e2, eqvs_rs a b]
    by_cases h1 : x = y <;> by_cases h2 : a = b <;> simp [h1, h2]
theorem okq_rs : ∀ {a : List Rn}, LowR a → D.okqs (rs a) = true ∧ D.deps (rs a) ≤ 1
  | [], _ => ⟨rfl, by decide⟩
  | x :: a, h => by
    obtain ⟨h1, h2⟩ := okq_rs (a := a) fun z hz => h z (List.mem_cons_of_mem _ hz)
    have h3 := okD_run (h x List.mem_cons_self)
    have h4 := (Bool.and_eq_true_iff.mp h3).1
    refine ⟨?_, ?_⟩
    · show (D.okq (rD x) && D.okqs (rs a)) = true
      rw [h4, h1]
      rfl
    · show max (D.dep (rD x)) (D.deps (rs a)) ≤ 1
      have : D.dep (rD x) = 1 := rfl
      omega
theorem okD_rs {a : List Rn} (h : LowR a) : okD (.tup (rs a)) = true := by
  obtain ⟨h1, h2⟩ := okq_rs h
  show (D.okqs (rs a) && decide (D.deps (rs a) + 1 ≤ 64)) = true
  rw [h1, decide_eq_true (by omega)]
  rfl
theorem eqB_rs {a b : List Rn} (ha : LowR a) (hb : LowR b) : eqB (.tup (rs a)) (.tup (rs b)) = some (decide (a = b)) := by
  show (if okD (.tup (rs a)) = true ∧ okD (.tup (rs b)) = true then some (D.eqvs (rs a) (rs b)) else none) = _
  rw [if_pos ⟨okD_rs ha, okD_rs hb⟩, eqvs_rs]
theorem eqD_rs {a b : List Rn} (ha : LowR a) (hb : LowR b) : eqD (.tup (rs a)) (.tup (rs b)) = some (.d (.bl (decide (a = b)))) := by
  unfold eqD
  rw [eqB_rs ha hb]
  rfl
theorem neD_rs {a b : List Rn} (ha : LowR a) (hb : LowR b) : neD (.tup (rs a)) (.tup (rs b)) = some (.d (.bl (!decide (a = b)))) := by
  unfold neD
  rw [eqB_rs ha hb]
  rfl
theorem eq_ok {s : Lt} {a b : List Rn} (ha : LowR a) (hb : LowR b) : Ans m_Word___eq__ [wd s a, wd s b] (.d (.bl (decide (a = b)))) := by
  refine ⟨_, fn_eval (b := b_Word___eq__) [.d (wd s a), .d (wd s b)] rfl (rv := .d (.bl (decide (a = b)))) (ρ1 := [.d (wd s a), .d (wd s b)]) ?_ rfl⟩
  exact ev_ret (p_andVT rfl (p_andVT (p_test (p_bin (hd_d (fld_l rfl)) (hd_d (fld_l rfl)) eqD_same)) (p_bin (hd_d (fld_r rfl)) (hd_d (fld_r rfl)) (eqD_rs ha hb))))
/-! ### turned, bracket, power -/
theorem cls_made {s : Lt} {x : D} {w : List Rn} {r : List S → R (List HV)} {ρ ρ' : List S} {hs : List HV} (h : w.length ≤ 32768) (lw : LowR w) (hx : Sq x w) (hn : (nf w).length ≤ 200) (hr : r ρ = .ok hs ρ) (hf : forceHs hs ρ = .ok [.str s, x] ρ') : mStat 2 "Word" m_Word_made (mC (.cls "Word")) r ρ = .ok (.f (wd s (nf w))) ρ' :=
  p_statF p_c hr hf rfl (made_ok h lw hx hn)
theorem turned_ok {s : Lt} {a b : List Rn} (ha : Wd a) (hb : Wd b) (hn : (nf (b ++ (a ++ und b))).length ≤ 200) : Ans m_Word_turned [wd s a, wd s b] (.f (wd s (nf (b ++ (a ++ und b))))) := by
  have hz := szl
  have l1 := ha.len
  have l2 := hb.len
  have l3 : (und b).length ≤ 200 := by rw [und_len]; omega
  have u : ∀ {ρ : List S} {f : Ex}, Hd f ρ (wd s b) → Hd (mCall 1 m_undone_runs (mCons (mFld ["Word"] "own_runs" f) (mNil))) ρ (.lst (rs (und b))) := fun h => hd_f (p_call (.one (hd_d (fld_r h))) rfl (undone_ok (by omega) (.inr rfl)))
  have l : (mLst (mStar (mFld ["Word"] "own_runs" (mVar 1)) (mStar (mFld ["Word"] "own_runs" (mVar 0)) (mStar (mCall 1 m_undone_runs (mCons (mFld ["Word"] "own_runs" (mVar 1)) (mNil))) (mNil))))) [.d (wd s a), .d (wd s b), .un] = .ok (.f (.lst (rs (b ++ (a ++ und b))))) [.d (wd s a), .d (wd s b), .un] := by
    have := p_lst (.star (hd_d (fld_r (ρ := [.d (wd s a), .d (wd s b), .un]) (a := mVar 1) (s := s) (w := b) rfl)) seqT (.star (hd_d (fld_r (a := mVar 0) (s := s) (w := a) rfl)) seqT (.star (u (f := mVar 1) rfl) seqLs .nil))) (by simp; omega)
    rwa [List.append_nil, ← rs_app, ← rs_app] at this
  refine ⟨_, fn_eval (b := b_Word_turned) [.d (wd s a), .d (wd s b), .un] rfl (rv := .f (wd s (nf (b ++ (a ++ und b))))) (ρ1 := [.d (wd s a), .d (wd s b), .d (.lst (rs (b ++ (a ++ und b))))]) ?_ rfl⟩
  exact q_seq (q_exp (p_call (.two rfl rfl) rfl same_ok)) (q_seq (q_set l rfl) (ev_ret (cls_made (by simp; omega) (hb.low.app (ha.low.app hb.low.und)) (.inl rfl) hn rfl rfl)))
theorem bracket_ok {s : Lt} {a b : List Rn} (ha : Wd a) (hb : Wd b) (hn : (nf (a ++ (b ++ (und a ++ und b)))).length ≤ 200) : Ans m_Word_bracket [wd s a, wd s b] (.f (wd s (nf (a ++ (b ++ (und a ++ und b)))))) := by
  have hz := szl
  have l1 := ha.len
  have l2 := hb.len
  have l3 : (und b).length ≤ 200 := by rw [und_len]; omega
  have l4 : (und a).length ≤ 200 := by rw [und_len]; omega
  have u : ∀ {ρ : List S} {f : Ex} {b : List Rn}, b.length ≤ 200 → Hd f ρ (wd s b) → Hd (mCall 1 m_undone_runs (mCons (mFld ["Word"] "own_runs" f) (mNil))) ρ (.lst (rs (und b))) := fun hl h => hd_f (p_call (.one (hd_d (fld_r h))) rfl (undone_ok (by omega) (.inr rfl)))
  have l : (mLst (mStar (mFld ["Word"] "own_runs" (mVar 0)) (mStar (mFld ["Word"] "own_runs" (mVar 1)) (mStar (mCall 1 m_undone_runs (mCons (mFld ["Word"] "own_runs" (mVar 0)) (mNil))) (mStar (mCall 1 m_undone_runs (mCons (mFld ["Word"] "own_runs" (mVar 1)) (mNil))) (mNil)))))) [.d (wd s a), .d (wd s b), .un] = .ok (.f (.lst (rs (a ++ (b ++ (und a ++ und b)))))) [.d (wd s a), .d (wd s b), .un] := by
    have := p_lst (.star (hd_d (fld_r (ρ := [.d (wd s a), .d (wd s b), .un]) (a := mVar 0) (s := s) (w := a) rfl)) seqT (.star (hd_d (fld_r (a := mVar 1) (s := s) (w := b) rfl)) seqT (.star (u (f := mVar 0) l1 rfl) seqLs (.star (u (f := mVar 1) l2 rfl) seqLs .nil)))) (by simp; omega)
    rwa [List.append_nil, ← rs_app, ← rs_app, ← rs_app] at this
  refine ⟨_, fn_eval (b := b_Word_bracket) [.d (wd s a), .d (wd s b), .un] rfl (rv := .f (wd s (nf (a ++ (b ++ (und a ++ und b)))))) (ρ1 := [.d (wd s a), .d (wd s b), .d (.lst (rs (a ++ (b ++ (und a ++ und b)))))]) ?_ rfl⟩
  exact q_seq (q_exp (p_call (.two rfl rfl) rfl same_ok)) (q_seq (q_set l rfl) (ev_ret (cls_made (by simp; omega) (ha.low.app (hb.low.app (ha.low.und.app hb.low.und))) (.inl rfl) hn rfl rfl)))
/-- n-th power's row -/
def pw (a : List Rn) (n : Int) : List Rn := repL n.natAbs (if n < 0 then und a else a)
theorem pw_low {a : List Rn} {n : Int} (h : LowR a) : LowR (pw a n) := fun x hx => by
  obtain ⟨l, h1, h2⟩ := List.mem_flatten.mp hx
  have := List.eq_of_mem_replicate h1
  subst this
  split at h2
  · exact h.und x h2
  · exact h x h2
theorem within_ok {n lo hi : Int} (h1 : lo ≤ n) (h2 : n ≤ hi) (h3 : n.natAbs < 10 ^ 200) : Ans m_require_within [.int n, .int lo, .int hi] (.d .non) := by
  have i1 : Ans m_is_integer [.int n] (.d (.bl true)) := by
    refine ⟨_, fn_eval (b := b_is_integer) [.d (.int n)] rfl (rv := .d (.bl true)) (ρ1 := [.d (.int n)]) ?_ rfl⟩
    refine ev_ret (p_andVT rfl (p_andVT rfl (p_chain (x := .int (-(10 ^ 200 - 1))) (y := .int n) (z := .int (10 ^ 200 - 1)) (hd_d (p_un p_c ?_)) rfl ?_ p_c ?_)))
    · rfl
    · show some (RV.d (.bl (decide ((-(10 ^ 200 - 1) : Int) ≤ n)))) = _
      rw [decide_eq_true (by omega)]
    · show some (RV.d (.bl (decide (n ≤ (10 ^ 200 - 1 : Int))))) = _
      rw [decide_eq_true (by omega)]
  have i2 : Ans m_is_integer_within [.int n, .int lo, .int hi] (.d (.bl true)) := by
    refine ⟨_, fn_eval (b := b_is_integer_within) [.d (.int n), .d (.int lo), .d (.int hi)] rfl (rv := .d (.bl true)) (ρ1 := [.d (.int n), .d (.int lo), .d (.int hi)]) ?_ rfl⟩
    refine ev_ret (p_andVT (p_test (p_call (.one rfl) rfl i1)) (p_chain (x := .int lo) (y := .int n) (z := .int hi) rfl rfl ?_ rfl ?_))
    · show some (RV.d (.bl (decide (lo ≤ n)))) = _
      rw [decide_eq_true h1]
    · show some (RV.d (.bl (decide (n ≤ hi)))) = _
      rw [decide_eq_true h2]
  exact ⟨_, fn_evalN (b := b_require_within) [.d (.int n), .d (.int lo), .d (.int hi)] rfl (q_ifF (p_notF (p_truth (hd_d (p_call (.three rfl rfl rfl) rfl i2)) rfl)) q_next)⟩
theorem power_ok {s : Lt} {a : List Rn} {n : Int} (ha : Wd a) (h1 : -400 ≤ n) (h2 : n ≤ 400) (hl : (pw a n).length ≤ 32768) (hn : (nf (pw a n)).length ≤ 200) : Ans m_Word_power [wd s a, .int n] (.f (wd s (nf (pw a n)))) := by
  have hz := szl
  have l1 := ha.len
  have q : (mIf (mTestB (mBin ltD (mVar 1) (mC (.int 0)))) (mCall 1 m_undone_runs (mCons (mFld ["Word"] "own_runs" (mVar 0)) (mNil))) (mCB listD (mCons (mFld ["Word"] "own_runs" (mVar 0)) (mNil)))) [.d (wd s a), .d (.int n), .un] = .ok (.f (.lst (rs (if n < 0 then und a else a)))) [.d (wd s a), .d (.int n), .un] := by
    have t : mTestB (mBin ltD (mVar 1) (mC (.int 0))) [.d (wd s a), .d (.int n), .un] = .ok (decide (n < 0)) [.d (wd s a), .d (.int n), .un] := rfl
    by_cases c : n < 0
    · rw [decide_eq_true c] at t
      rw [if_pos c]
      exact p_ifT t (p_call (.one (hd_d (fld_r rfl))) rfl (undone_ok (by omega) (.inr rfl)))
    · rw [decide_eq_false c] at t
      rw [if_neg c]
      exact p_ifF t (p_cb (.one (hd_d (fld_r rfl))) rfl)
  have ab : (mCB absD (mCons (mVar 1) (mNil))) [.d (wd s a), .d (.int n), .o (.lst (rs (if n < 0 then und a else a)))] = .ok (.d (.int (n.natAbs : Int))) [.d (wd s a), .d (.int n), .o (.lst (rs (if n < 0 then und a else a)))] := by
    refine p_cb (.one rfl) ?_
    show some (RV.d (.int (if n < 0 then -n else n))) = _
    congr 3
    split <;> omega
  have m : mulD (.lst (rs (if n < 0 then und a else a))) (.int (n.natAbs : Int)) = some (.f (.lst (rs (pw a n)))) := by
    have e : repL n.natAbs (rs (if n < 0 then und a else a)) = rs (pw a n) := by
      simp [rs, pw, repL]
    have hl' := hl
    unfold pw at hl'
    rw [repL_length] at hl'
    show (if (rs (if n < 0 then und a else a)).length * n.natAbs ≤ sizeLine ∧ (n.natAbs : Int) < 2 ^ 63 ∧ -(2 ^ 63) ≤ (n.natAbs : Int) then some (RV.f (.lst (repL n.natAbs (rs (if n < 0 then und a else a))))) else none) = _
    rw [if_pos ⟨by rw [rs_len, Nat.mul_comm]; omega, by omega, by omega⟩, e]
  have mb : mBin mulD (mVar 2) (mCB absD (mCons (mVar 1) (mNil))) [.d (wd s a), .d (.int n), .o (.lst (rs (if n < 0 then und a else a)))] = .ok (.f (.lst (rs (pw a n)))) [.d (wd s a), .d (.int n), .o (.lst (rs (if n < 0 then und a else a)))] := by
    rw [u_bin, u_hold, show mVar 2 [.d (wd s a), .d (.int n), .o (.lst (rs (if n < 0 then und a else a)))] = .ok (.r 2) [.d (wd s a), .d (.int n), .o (.lst (rs (if n < 0 then und a else a)))] from rfl, u_bok, u_bok, u_hold, ab, u_bok, u_bok]
    dsimp only [peekH]
    show MM.ret (mulD (.lst (rs (if n < 0 then und a else a))) (.int (n.natAbs : Int))) _ = _
    rw [m]
    rfl
  refine ⟨_, fn_eval (b := b_Word_power) [.d (wd s a), .d (.int n), .un] rfl (rv := .f (wd s (nf (pw a n)))) (ρ1 := [.d (wd s a), .d (.int n), .o (.lst (rs (if n < 0 then und a else a)))]) ?_ rfl⟩
  refine q_seq (q_exp (p_call (.three rfl rfl rfl) rfl (within_ok (n := n) (lo := -400) (hi := 400) h1 h2 (by omega)))) (q_seq (q_set q rfl) (ev_ret (cls_made (hs := [.d (.str s), .d (.lst (rs (pw a n)))]) hl (pw_low ha.low) (.inl rfl) hn ?_ rfl)))
  have l0 : Hd (mFld ["Word"] "own_letters" (mVar 0)) [.d (wd s a), .d (.int n), .o (.lst (rs (if n < 0 then und a else a)))] (.str s) := hd_d (fld_l (w := a) rfl)
  exact Hds.two l0 (hd_f mb)
end WW
set_option Elab.async false
set_option maxRecDepth 100000
set_option maxHeartbeats 4000000
namespace WW
open PySem MM FG
/-! ### the word made, with a look at what is given -/
/-- letters that the program takes -/
def LetOk (s : Lt) : Prop := ∃ ρ, m_is_letters [.d (.str s)] = .rt (.d (.bl true)) ρ
def RunOk (s : Lt) (x : Rn) : Prop := ∃ c, x.1 = [c] ∧ c ∈ s ∧ x.2.natAbs < 10 ^ 200
theorem isint_ok {n : Int} (h3 : n.natAbs < 10 ^ 200) : Ans m_is_integer [.int n] (.d (.bl true)) := by
  refine ⟨_, fn_eval (b := b_is_integer) [.d (.int n)] rfl (rv := .d (.bl true)) (ρ1 := [.d (.int n)]) ?_ rfl⟩
  refine ev_ret (p_andVT rfl (p_andVT rfl (p_chain (x := .int (-(10 ^ 200 - 1))) (y := .int n) (z := .int (10 ^ 200 - 1)) (hd_d (p_un p_c ?_)) rfl ?_ p_c ?_)))
  · rfl
  · show some (RV.d (.bl (decide ((-(10 ^ 200 - 1) : Int) ≤ n)))) = _
    rw [decide_eq_true (by omega)]
  · show some (RV.d (.bl (decide (n ≤ (10 ^ 200 - 1 : Int))))) = _
    rw [decide_eq_true (by omega)]
theorem isrun_ok {s : Lt} {x : Rn} (h : RunOk s x) : Ans m_is_run [.str s, rD x] (.d (.bl true)) := by
  obtain ⟨c, e1, e2, e3⟩ := h
  have v1 : Hd (mVar 1) [.d (.str s), .d (rD x)] (rD x) := rfl
  have x0 : (mBin ixD (mVar 1) (mC (.int 0))) [.d (.str s), .d (rD x)] = .ok (.d (.str x.1)) [.d (.str s), .d (rD x)] := p_bin v1 p_c run_0
  have x1 : (mBin ixD (mVar 1) (mC (.int 1))) [.d (.str s), .d (rD x)] = .ok (.d (.int x.2)) [.d (.str s), .d (rD x)] := p_bin v1 p_c run_1
  have ln : (mCB lenD (mCons (mVar 1) (mNil))) [.d (.str s), .d (rD x)] = .ok (.d (.int 2)) [.d (.str s), .d (rD x)] := p_cb (.one v1) rfl
  have lx : (mCB lenD (mCons (mBin ixD (mVar 1) (mC (.int 0))) (mNil))) [.d (.str s), .d (rD x)] = .ok (.d (.int 1)) [.d (.str s), .d (rD x)] := by
    refine p_cb (.one (hd_d x0)) ?_
    rw [e1]
    rfl
  have c0 : mNotT (mTruth (mCall 1 m_is_integer (mCons (mBin ixD (mVar 1) (mC (.int 1))) (mNil)))) [.d (.str s), .d (rD x)] = .ok false [.d (.str s), .d (rD x)] := p_notF (p_truth (hd_d (p_call (.one (hd_d x1)) rfl (isint_ok e3))) rfl)
  have n0 : mTestB (mBin neD (mCB lenD (mCons (mVar 1) (mNil))) (mC (.int 2))) [.d (.str s), .d (rD x)] = .ok false [.d (.str s), .d (rD x)] := by
    refine p_test (p_bin (hd_d ln) p_c ?_)
    rw [neD_int]
    rfl
  refine ⟨_, fn_eval (b := b_is_run) [.d (.str s), .d (rD x)] rfl (rv := .d (.bl true)) (ρ1 := [.d (.str s), .d (rD x)]) ?_ rfl⟩
  refine q_seq (q_ifF (p_orF (p_notF (p_truth (hd_d (p_isT v1 rfl)) rfl)) (p_orF n0 (p_orF (p_notF (p_truth (hd_d (p_isT (hd_d x0) rfl)) rfl)) c0))) q_next) (ev_ret (p_andVT (p_test (p_bin (hd_d lx) p_c ?_)) (p_bin (hd_d x0) rfl ?_)))
  · rw [eqD_int]
    rfl
  · rw [e1]
    show some (RV.d (.bl (decide (c ∈ s)))) = _
    rw [decide_eq_true e2]
theorem reqruns_ok {s : Lt} {w : List Rn} (hw : w.length ≤ 50000) (h : ∀ x ∈ w, RunOk s x) : Ans m_require_runs [.str s, .tup (rs w)] (.d .non) := by
  have hz := szl
  have lc := mlc_all (ρ0 := [.d (.str s), .d (.tup (rs w)), .un]) (ρ := [.d (.str s), .d (.tup (rs w)), .un]) (ρw := [.d (.str s), .d (.tup (rs w)), .un]) (t := .nm 2) (vs := [2]) (it := mItems (mVar 1)) (f := mCall 2 m_is_run (mCons (mVar 0) (mCons (mVar 2) (mNil)))) rD (fun _ : Rn => D.bl true) (fun x => [.d (.str s), .d (.tup (rs w)), .d (rD x)]) w (p_items (x := .tup (rs w)) rfl rfl) rfl rfl rfl (fun _ => rfl) (by omega) fun x hx => ⟨rfl, hd_d (p_call (.two rfl rfl) rfl (isrun_ok (h x hx)))⟩
  have al : allD [.lst (w.map fun _ : Rn => D.bl true)] = some (.d (.bl true)) := by
    show (boolsD (w.map fun x : Rn => D.bl ((fun _ => true) x))).map _ = _
    rw [boolsD_map]
    simp
  exact ⟨_, fn_evalN (b := b_require_runs) [.d (.str s), .d (.tup (rs w)), .un] rfl (ρ1 := [.d (.str s), .d (.tup (rs w)), .un]) (q_ifF (p_orF (p_notF (p_truth (hd_d (p_isT (x := .tup (rs w)) rfl rfl)) rfl)) (p_notF (p_truth (hd_d (p_cb (.one (hd_f lc)) al)) rfl))) q_next)⟩
theorem reqlet_ok {s : Lt} (h : LetOk s) : Ans m_require_letters [.str s] (.d .non) :=
  ⟨_, fn_evalN (b := b_require_letters) [.d (.str s)] rfl (ρ1 := [.d (.str s)]) (q_ifF (p_notF (p_truth (hd_d (p_call (xs := [.str s]) (.one rfl) rfl h)) rfl)) q_next)⟩
theorem init_ck {s : Lt} {w : List Rn} (hs : LetOk s) (h : w.length ≤ 32768) (lw : LowR w) (hr : ∀ x ∈ w, RunOk s x) (hn : (nf w).length ≤ 200) : Made m_Word___init__ "Word" [.str s, .tup (rs w), .bl true] (wd s (nf w)) := by
  obtain ⟨ρf, e⟩ := short_ok h lw (.inr rfl)
  refine ⟨[.p (wd s (nf w)), .d (.str s), .d (.tup (rs w)), .d (.bl true)], fn_evalN [.p (.ins "Word" []), .d (.str s), .d (.tup (rs w)), .d (.bl true)] rfl ?_, rfl⟩
  have c : (mCB tupleD (mCons (mCall 1 m_shortened (mCons (mVar 2) (mNil))) (mNil))) [.p (.ins "Word" [("own_letters", .str s)]), .d (.str s), .d (.tup (rs w)), .d (.bl true)] = .ok (.d (.tup (rs (nf w)))) [.p (.ins "Word" [("own_letters", .str s)]), .d (.str s), .d (.tup (rs w)), .d (.bl true)] :=
    p_cb (.one (hd_f (p_call (n := 1) (m := m_shortened) (xs := [.tup (rs w)]) (.one rfl) rfl ⟨ρf, e⟩))) rfl
  have e2 : sFldSet ["Word"] 0 "own_runs" (mCB tupleD (mCons (mCall 1 m_shortened (mCons (mVar 2) (mNil))) (mNil))) [.p (.ins "Word" [("own_letters", .str s)]), .d (.str s), .d (.tup (rs w)), .d (.bl true)] = .nx [.p (wd s (nf w)), .d (.str s), .d (.tup (rs w)), .d (.bl true)] := by
    unfold sFldSet
    rw [(hd_d c).force]
    rfl
  have t : mTestB (mBin gtD (mCB lenD (mCons (mFld ["Word"] "own_runs" (mVar 0)) (mNil))) (mC (.int 200))) [.p (wd s (nf w)), .d (.str s), .d (.tup (rs w)), .d (.bl true)] = .ok false [.p (wd s (nf w)), .d (.str s), .d (.tup (rs w)), .d (.bl true)] := by
    have f0 : (mFld ["Word"] "own_runs" (mVar 0)) [.p (wd s (nf w)), .d (.str s), .d (.tup (rs w)), .d (.bl true)] = .ok (.d (.tup (rs (nf w)))) [.p (wd s (nf w)), .d (.str s), .d (.tup (rs w)), .d (.bl true)] := rfl
    refine p_test ?_
    rw [p_bin (hd_d (p_cb (.one (hd_d f0)) len_tup)) p_c (rv := .d (.bl false)) ?_]
    rw [rs_len]
    show some (RV.d (.bl (decide ((200 : Int) < (nf w).length)))) = _
    rw [decide_eq_false (by omega)]
  exact q_seq (q_ifT rfl (q_seq (q_exp (p_call (.one rfl) rfl (reqlet_ok hs))) (q_exp (p_call (.two rfl rfl) rfl (reqruns_ok (by omega) hr))))) (q_seq (ρ1 := [.p (.ins "Word" [("own_letters", .str s)]), .d (.str s), .d (.tup (rs w)), .d (.bl true)]) rfl (q_seq e2 (q_ifF t q_next)))
/-! ### the law's own rows -/
theorem putrow_ok {row : List Rn} {l : Lt} {n : Int} (hr : row.length ≤ 50000) (lr : LowR row) : Ans m__law_put_row [.tup (rs row), .str l, .int n] (.d (.tup (rs (put row (l, n))))) := by
  have hz := szl
  have v0 : Hd (mVar 0) [.d (.tup (rs row)), .d (.str l), .d (.int n), .un] (.tup (rs row)) := rfl
  have t0 : mTestB (mBin eqD (mVar 2) (mC (.int 0))) [.d (.tup (rs row)), .d (.str l), .d (.int n), .un] = .ok (decide (n = 0)) [.d (.tup (rs row)), .d (.str l), .d (.int n), .un] := p_test (p_bin rfl p_c eqD_int)
  by_cases hn : n = 0
  · rw [decide_eq_true hn] at t0
    have e : put row (l, n) = row := if_pos hn
    rw [e]
    exact ⟨_, fn_eval (b := b__law_put_row) [.d (.tup (rs row)), .d (.str l), .d (.int n), .un] rfl (rv := .d (.tup (rs row))) (ρ1 := [.d (.tup (rs row)), .d (.str l), .d (.int n), .un]) (q_seqR (q_ifT t0 (ev_ret rfl))) rfl⟩
  rw [decide_eq_false hn] at t0
  have nl : (mTup (mNil)) [.d (.tup (rs row)), .d (.str l), .d (.int n), .un] = .ok (.d (.tup [])) [.d (.tup (rs row)), .d (.str l), .d (.int n), .un] := rfl
  have en : mTestB (mBin eqD (mVar 0) (mTup (mNil))) [.d (.tup (rs row)), .d (.str l), .d (.int n), .un] = .ok (decide (row = [])) [.d (.tup (rs row)), .d (.str l), .d (.int n), .un] := p_test (p_bin v0 (hd_d nl) (eqD_rs (b := []) lr (fun _ h => by cases h)))
  have add1 : ∀ q : Rn, row.length + 1 ≤ sizeLine := fun _ => by omega
  have ad : (mBin addD (mVar 0) (mTup (mCons (mTup (mCons (mVar 1) (mCons (mVar 2) (mNil)))) (mNil)))) [.d (.tup (rs row)), .d (.str l), .d (.int n), .un] = .ok (.d (.tup (rs (row ++ [(l, n)])))) [.d (.tup (rs row)), .d (.str l), .d (.int n), .un] := by
    refine p_bin v0 (hd_d (p_tup (.one (hd_d (p_tup (xs := [.str l, .int n]) (.two rfl rfl) (by simp; omega)))) (by simp; omega))) ?_
    show (if (rs row).length + 1 ≤ sizeLine then some (RV.d (.tup (rs row ++ [.tup [.str l, .int n]]))) else none) = _
    rw [if_pos (by rw [rs_len]; omega), rs_app]
    rfl
  cases q : row.getLast? with
  | none =>
    have er : row = [] := by simpa using q
    have e : put row (l, n) = row ++ [(l, n)] := by
      unfold put
      rw [if_neg hn, q, er]
    rw [decide_eq_true er] at en
    rw [e]
    exact ⟨_, fn_eval (b := b__law_put_row) [.d (.tup (rs row)), .d (.str l), .d (.int n), .un] rfl (rv := .d (.tup (rs (row ++ [(l, n)])))) (ρ1 := [.d (.tup (rs row)), .d (.str l), .d (.int n), .un]) (q_seq (q_ifF t0 q_next) (q_seqR (q_ifT (p_orT en) (ev_ret ad)))) rfl⟩
  | some y =>
    have er := last_split q
    have ne : row ≠ [] := fun z => by rw [z] at q; cases q
    rw [decide_eq_false ne] at en
    have hpos : 0 < row.length := List.length_pos_iff.mpr ne
    have gl : row[row.length - 1 - 0]'(by omega) = y := by
      have : row[row.length - 1]? = some y := by rw [← List.getLast?_eq_getElem?]; exact q
      rw [List.getElem?_eq_getElem (by omega)] at this
      simpa using this
    have last : ∀ {s3 : S}, (mBin ixD (mVar 0) (mUn negD (mC (.int 1)))) [.d (.tup (rs row)), .d (.str l), .d (.int n), s3] = .ok (.d (rD y)) [.d (.tup (rs row)), .d (.str l), .d (.int n), s3] := fun {s3} => p_bin rfl (hd_d (p_un p_c rfl)) (by rw [← gl]; exact rt_neg rfl hpos)
    have nt : mTestB (mBin neD (mBin ixD (mBin ixD (mVar 0) (mUn negD (mC (.int 1)))) (mC (.int 0))) (mVar 1)) [.d (.tup (rs row)), .d (.str l), .d (.int n), .un] = .ok (!decide (y.1 = l)) [.d (.tup (rs row)), .d (.str l), .d (.int n), .un] := p_test (p_bin (hd_d (p_bin (hd_d last) p_c run_0)) rfl neD_lt)
    by_cases hy : y.1 = l
    · rw [decide_eq_true hy] at nt
      have es : (mBin addD (mBin ixD (mBin ixD (mVar 0) (mUn negD (mC (.int 1)))) (mC (.int 1))) (mVar 2)) [.d (.tup (rs row)), .d (.str l), .d (.int n), .un] = .ok (.d (.int (y.2 + n))) [.d (.tup (rs row)), .d (.str l), .d (.int n), .un] := p_bin (hd_d (p_bin (hd_d last) p_c run_1)) rfl rfl
      have cut : (mSlice sliceD (mVar 0) (mNoPart) (mPart (mUn negD (mC (.int 1))))) [.d (.tup (rs row)), .d (.str l), .d (.int n), .d (.int (y.2 + n))] = .ok (.d (.tup (rs row.dropLast))) [.d (.tup (rs row)), .d (.str l), .d (.int n), .d (.int (y.2 + n))] := by
        refine p_slice rfl rfl (p_part (p_un p_c rfl)) ?_
        show some (RV.d (.tup (cutL (rs row) none (some (-1))))) = _
        rw [cut_last]
        simp [rs, List.map_dropLast]
      have t1 : mTestB (mBin neD (mVar 3) (mC (.int 0))) [.d (.tup (rs row)), .d (.str l), .d (.int n), .d (.int (y.2 + n))] = .ok (!decide (y.2 + n = 0)) [.d (.tup (rs row)), .d (.str l), .d (.int n), .d (.int (y.2 + n))] := p_test (p_bin rfl p_c neD_int)
      by_cases h0 : y.2 + n = 0
      · have e : put row (l, n) = row.dropLast := by
          unfold put
          rw [if_neg hn, q]
          dsimp only
          rw [if_neg (by simpa using hy), if_neg (by simpa using h0)]
        rw [e]
        rw [decide_eq_true h0] at t1
        exact ⟨_, fn_eval (b := b__law_put_row) [.d (.tup (rs row)), .d (.str l), .d (.int n), .un] rfl (rv := .d (.tup (rs row.dropLast))) (ρ1 := [.d (.tup (rs row)), .d (.str l), .d (.int n), .d (.int (y.2 + n))]) (q_seq (q_ifF t0 q_next) (q_seq (q_ifF (p_orF en nt) q_next) (q_seq (q_set es rfl) (ev_ret (p_ifF t1 cut))))) rfl⟩
      · have e : put row (l, n) = row.dropLast ++ [(l, y.2 + n)] := by
          unfold put
          rw [if_neg hn, q]
          dsimp only
          rw [if_neg (by simpa using hy), if_pos (by simpa using h0)]
        rw [e]
        rw [decide_eq_false h0] at t1
        have a2 : (mBin addD (mSlice sliceD (mVar 0) (mNoPart) (mPart (mUn negD (mC (.int 1))))) (mTup (mCons (mTup (mCons (mVar 1) (mCons (mVar 3) (mNil)))) (mNil)))) [.d (.tup (rs row)), .d (.str l), .d (.int n), .d (.int (y.2 + n))] = .ok (.d (.tup (rs (row.dropLast ++ [(l, y.2 + n)])))) [.d (.tup (rs row)), .d (.str l), .d (.int n), .d (.int (y.2 + n))] := by
          refine p_bin (hd_d cut) (hd_d (p_tup (.one (hd_d (p_tup (xs := [.str l, .int (y.2 + n)]) (.two rfl rfl) (by simp; omega)))) (by simp; omega))) ?_
          show (if (rs row.dropLast).length + 1 ≤ sizeLine then some (RV.d (.tup (rs row.dropLast ++ [.tup [.str l, .int (y.2 + n)]]))) else none) = _
          rw [if_pos (by rw [rs_len, List.length_dropLast]; omega), rs_app]
          rfl
        exact ⟨_, fn_eval (b := b__law_put_row) [.d (.tup (rs row)), .d (.str l), .d (.int n), .un] rfl (rv := .d (.tup (rs (row.dropLast ++ [(l, y.2 + n)])))) (ρ1 := [.d (.tup (rs row)), .d (.str l), .d (.int n), .d (.int (y.2 + n))]) (q_seq (q_ifF t0 q_next) (q_seq (q_ifF (p_orF en nt) q_next) (q_seq (q_set es rfl) (ev_ret (p_ifT t1 a2))))) rfl⟩
    · rw [decide_eq_false hy] at nt
      have e : put row (l, n) = row ++ [(l, n)] := by
        unfold put
        rw [if_neg hn, q]
        dsimp only
        rw [if_pos hy]
      rw [e]
      exact ⟨_, fn_eval (b := b__law_put_row) [.d (.tup (rs row)), .d (.str l), .d (.int n), .un] rfl (rv := .d (.tup (rs (row ++ [(l, n)])))) (ρ1 := [.d (.tup (rs row)), .d (.str l), .d (.int n), .un]) (q_seq (q_ifF t0 q_next) (q_seqR (q_ifT (p_orF en nt) (ev_ret ad)))) rfl⟩
end WW
set_option Elab.async false
set_option maxRecDepth 100000
set_option maxHeartbeats 4000000
namespace WW
open PySem MM FG
/-! ### the law's draws -/
/-- a function that draws: its tray first, then data; P holds of the answer -/
def Draws (m : Fn) (xs : List D) (k : Nat) (P : D → Prop) : Prop := ∀ n x, TrayOk n x → n + k ≤ 2 ^ 60 → ∃ y x' ρ, m (.p x :: xs.map S.d) = .rt (.d y) (.p x' :: ρ) ∧ TrayOk (n + k) x' ∧ P y
theorem bit_draws {m : Int} (hm : 0 < m) (hm2 : m.natAbs.log2 < 9000) : Draws m__law_bit [.int m] 1 (fun y => ∃ r, y = .int r ∧ 0 ≤ r ∧ r < m) := fun n x h hn => by
  obtain ⟨r, x', ρ, e, h0, h1, h2⟩ := bit_any h (by omega) hm hm2
  exact ⟨_, x', ρ, e, h2, r, rfl, h0, h1⟩
theorem pick_draws {l : List D} (hl : 0 < l.length) (hl2 : l.length < 2 ^ 62) : Draws m__law_pick [.lst l] 1 (fun y => y ∈ l) := fun n x h hn => by
  obtain ⟨i, y, x', ρ, e, h0, h1⟩ := pick_lst (l := l) h (by omega) hl hl2
  exact ⟨y, x', ρ, h0, h1, List.mem_of_getElem? e⟩
theorem pick_str {s : Lt} (hl : 0 < s.length) (hz : s.length ≤ 1000) : Draws m__law_pick [.str s] 1 (fun y => ∃ c ∈ s, y = .str [c]) := fun n x h hn => by
  have z := szl
  obtain ⟨y, x', ρ, e, h1, r, rfl, h2, h3⟩ := bit_draws (m := s.length) (by omega) (Nat.lt_of_lt_of_le (log2_lt (k := 10) (by omega) (by decide)) (by decide)) n x h hn
  obtain ⟨i, rfl⟩ : ∃ i : Nat, r = i := ⟨r.toNat, by omega⟩
  have hi : i < s.length := by omega
  refine ⟨.str [s[i]], x', [.d (.str s)], ?_, h1, s[i], List.getElem_mem hi, rfl⟩
  refine fn_eval (b := b__law_pick) [.p x, .d (.str s)] rfl (rv := .d (.str [s[i]])) ?_ rfl
  refine ev_ret (ev_bin (x := .str s) (y := .int i) rfl (p_draw (i := 0) (s := .p x) (x' := x') rfl (.inl rfl) (.one (hd_d (p_cb (xs := [.str s]) (g := lenD) (rv := .d (.int s.length)) (.one rfl) ?_))) rfl e) ?_)
  · show (if s.length ≤ sizeLine then some (RV.d (.int (s.length : Nat))) else none) = _
    rw [if_pos (by omega)]
  · rw [ix_str hi (by omega)]
    simp [List.getD_eq_getElem?_getD, hi]
theorem signs_draws : Draws m__law_signs [] 1 (fun y => y ∈ [D.str [97, 98], D.str [97, 98], D.str [97, 98], D.str [120, 121], D.str [97], D.str [97, 98, 99]]) := fun n x h hn => by
  have z := szl
  obtain ⟨y, x', ρ, e, h1, h2⟩ := pick_draws (l := [D.str [97, 98], D.str [97, 98], D.str [97, 98], D.str [120, 121], D.str [97], D.str [97, 98, 99]]) (by decide) (by decide) n x h hn
  refine ⟨y, x', [], ?_, h1, h2⟩
  refine fn_eval (b := b__law_signs) [.p x] rfl (rv := .d y) ?_ rfl
  exact ev_ret (p_draw (i := 0) (s := .p x) (x' := x') rfl (.inl rfl) (.one (hd_f (p_lst (.cons p_c (.cons p_c (.cons p_c (.cons p_c (.cons p_c (.cons p_c .nil)))))) (by show 6 ≤ sizeLine; omega)))) rfl e)
/-- a draw of one more number, as an expression: the tray stands first -/
theorem ex_draw {m : Fn} {n k j : Nat} {xs : List D} {P : D → Prop} {r : List S → R (List HV)} {x : D} {t : List S} (hd : Draws m xs k P) (h : TrayOk j x) (hj : j + k ≤ 2 ^ 60) (hr : ∀ x, Hds r (.p x :: t) xs) (hn : xs.length + 1 = n) : ∃ y x', mCall n m (mCons (mVar 0) r) (.p x :: t) = .ok (.d y) (.p x' :: t) ∧ TrayOk (j + k) x' ∧ P y := by
  obtain ⟨y, x', ρ, e, h1, h2⟩ := hd j x h hj
  exact ⟨y, x', p_draw (i := 0) (s := .p x) rfl (.inl rfl) (hr x) hn e, h1, h2⟩
theorem big30 : ∃ ten, powD (.int 10) (.int 30) = some (.d (.int ten)) ∧ ten = 10 ^ 30 := ⟨10 ^ 30, by rw [pow_eq (by decide +kernel)]; rfl, rfl⟩
theorem power_draws {m : Int} (h1 : 1 ≤ m) (h2 : m ≤ 1000) : Draws m__law_power [.int m] 3 (fun y => ∃ r : Int, y = .int r ∧ r ≠ 0 ∧ r.natAbs ≤ 10 ^ 30) := fun n x h hn => by
  obtain ⟨y1, x1, e1, k1, lot, rfl, a1, a2⟩ := ex_draw (n := 2) (t := [.d (.int m), .un, .un]) (r := mCons (mC (.int 8)) (mNil)) (bit_draws (m := 8) (by decide) (by decide)) h (by omega) (fun _ => .one p_c) rfl
  have st2 : ∃ (f : Int) (x2 : D), (mIf (mTestB (mBin ltD (mVar 2) (mC (.int 7)))) (mBin addD (mC (.int 1)) (mCall 2 m__law_bit (mCons (mVar 0) (mCons (mVar 1) (mNil))))) (mBin addD (mC (.int 1)) (mCall 2 m__law_bit (mCons (mVar 0) (mCons (mBin powD (mC (.int 10)) (mC (.int 30))) (mNil)))))) [.p x1, .d (.int m), .d (.int lot), .un] = .ok (.d (.int f)) [.p x2, .d (.int m), .d (.int lot), .un] ∧ TrayOk (n + 2) x2 ∧ 1 ≤ f ∧ f ≤ 10 ^ 30 := by
    have tst : mTestB (mBin ltD (mVar 2) (mC (.int 7))) [.p x1, .d (.int m), .d (.int lot), .un] = .ok (decide (lot < 7)) [.p x1, .d (.int m), .d (.int lot), .un] := rfl
    by_cases c : lot < 7
    · obtain ⟨y2, x2, e2, k2, r, rfl, b1, b2⟩ := ex_draw (n := 2) (t := [.d (.int m), .d (.int lot), .un]) (r := mCons (mVar 1) (mNil)) (bit_draws (m := m) (by omega) (Nat.lt_of_lt_of_le (log2_lt (k := 10) (by omega) (by decide)) (by decide))) k1 (by omega) (fun _ => .one rfl) rfl
      refine ⟨1 + r, x2, ?_, k2, by omega, by omega⟩
      rw [u_if, tst, decide_eq_true c, u_bok, if_pos rfl]
      exact ev_bin rfl e2 rfl
    · obtain ⟨ten, p1, p2⟩ := big30
      obtain ⟨y2, x2, e2, k2, r, rfl, b1, b2⟩ := ex_draw (n := 2) (t := [.d (.int m), .d (.int lot), .un]) (r := mCons (mBin powD (mC (.int 10)) (mC (.int 30))) (mNil)) (bit_draws (m := ten) (by omega) (by rw [p2]; decide +kernel)) k1 (by omega) (fun _ => .one (hd_d (p_bin p_c p_c p1))) rfl
      refine ⟨1 + r, x2, ?_, k2, by omega, by omega⟩
      rw [u_if, tst, decide_eq_false c, u_bok, if_neg Bool.false_ne_true]
      exact ev_bin rfl e2 rfl
  obtain ⟨f, x2, e2, k2, f1, f2⟩ := st2
  obtain ⟨y3, x3, e3, k3, sg, rfl, c1, c2⟩ := ex_draw (n := 2) (t := [.d (.int m), .d (.int lot), .d (.int f)]) (r := mCons (mC (.int 2)) (mNil)) (bit_draws (m := 2) (by decide) (by decide)) k2 (by omega) (fun _ => .one p_c) rfl
  refine ⟨.int (if sg = 0 then f else 0 - f), x3, [.d (.int m), .d (.int lot), .d (.int f)], ?_, k3, _, rfl, by split <;> omega, by split <;> omega⟩
  refine fn_eval (b := b__law_power) [.p x, .d (.int m), .un, .un] rfl (rv := .d (.int (if sg = 0 then f else 0 - f))) ?_ rfl
  have s1 : sSet 2 (mCall 2 m__law_bit (mCons (mVar 0) (mCons (mC (.int 8)) (mNil)))) [.p x, .d (.int m), .un, .un] = .nx [.p x1, .d (.int m), .d (.int lot), .un] := by
    rw [u_set, e1]
    rfl
  have s2 : sSet 3 (mIf (mTestB (mBin ltD (mVar 2) (mC (.int 7)))) (mBin addD (mC (.int 1)) (mCall 2 m__law_bit (mCons (mVar 0) (mCons (mVar 1) (mNil))))) (mBin addD (mC (.int 1)) (mCall 2 m__law_bit (mCons (mVar 0) (mCons (mBin powD (mC (.int 10)) (mC (.int 30))) (mNil)))))) [.p x1, .d (.int m), .d (.int lot), .un] = .nx [.p x2, .d (.int m), .d (.int lot), .d (.int f)] := by
    rw [u_set, e2]
    rfl
  have t3 : mTestB (mBin eqD (mCall 2 m__law_bit (mCons (mVar 0) (mCons (mC (.int 2)) (mNil)))) (mC (.int 0))) [.p x2, .d (.int m), .d (.int lot), .d (.int f)] = .ok (decide (sg = 0)) [.p x3, .d (.int m), .d (.int lot), .d (.int f)] := ev_test (ev_bin e3 rfl eqD_int)
  refine q_seq s1 (q_seq s2 (ev_ret ?_))
  rw [u_if, t3, u_bok]
  by_cases c : sg = 0
  · rw [decide_eq_true c, if_pos rfl, if_pos c]
    rfl
  · rw [decide_eq_false c, if_neg Bool.false_ne_true, if_neg c]
    rfl
/-! ### a row drawn -/
structure RowOk (s : Lt) (k : Nat) (row : List Rn) : Prop where
  red : Red row
  len : row.length ≤ k
  mem : ∀ x ∈ row, (∃ c, x.1 = [c] ∧ c ∈ s) ∧ x.2.natAbs ≤ k * 10 ^ 30
theorem put_mem {row : List Rn} {l : Lt} {n : Int} {x : Rn} (h : x ∈ put row (l, n)) : x ∈ row ∨ (x.1 = l ∧ (x.2 = n ∨ ∃ y ∈ row, x.2 = y.2 + n)) := by
  unfold put at h
  split at h
  · exact .inl h
  · split at h
    · rcases List.mem_append.mp h with h | h
      · exact .inl h
      · rw [List.mem_singleton] at h
        subst h
        exact .inr ⟨rfl, .inl rfl⟩
    · rename_i y q
      split at h
      · rcases List.mem_append.mp h with h | h
        · exact .inl h
        · rw [List.mem_singleton] at h
          subst h
          exact .inr ⟨rfl, .inl rfl⟩
      · split at h
        · rcases List.mem_append.mp h with h | h
          · exact .inl (List.dropLast_subset _ h)
          · rw [List.mem_singleton] at h
            subst h
            exact .inr ⟨rfl, .inr ⟨y, List.mem_of_getLast? q, rfl⟩⟩
        · exact .inl (List.dropLast_subset _ h)
theorem RowOk.nil {s : Lt} : RowOk s 0 [] := ⟨trivial, by simp, fun _ h => by cases h⟩
theorem RowOk.put {s : Lt} {k : Nat} {row : List Rn} {c : Nat} {n : Int} (h : RowOk s k row) (hc : c ∈ s) (hn : n.natAbs ≤ 10 ^ 30) : RowOk s (k + 1) (put row ([c], n)) := by
  refine ⟨put_red h.red, ?_, fun x hx => ?_⟩
  · rw [put_nf h.red]
    have := nf_len (w := row ++ [([c], n)])
    have := h.len
    rw [List.length_append, List.length_singleton] at *
    omega
  · rcases put_mem hx with hx | ⟨h1, h2⟩
    · obtain ⟨a, b⟩ := h.mem x hx
      exact ⟨a, Nat.le_trans b (Nat.mul_le_mul_right _ (Nat.le_succ k))⟩
    · refine ⟨⟨c, h1, hc⟩, ?_⟩
      have eb := Nat.add_one_mul k (10 ^ 30)
      rw [eb]
      rcases h2 with h2 | ⟨y, hy, h2⟩
      · rw [h2]
        omega
      · have := (h.mem y hy).2
        rw [h2]
        omega
theorem RowOk.low {s : Lt} (hs : Low s) {k : Nat} {row : List Rn} (h : RowOk s k row) : LowR row := fun x hx => by
  obtain ⟨⟨c, h1, h2⟩, _⟩ := h.mem x hx
  intro z hz
  rw [h1, List.mem_singleton] at hz
  subst hz
  exact hs z h2
theorem row_draws {s : Lt} {a m : Int} (hs : Low s) (hl : 0 < s.length) (hz : s.length ≤ 1000) (ha : 0 ≤ a) (ha2 : a ≤ 1000) (h1 : 1 ≤ m) (h2 : m ≤ 1000) : Draws m__law_row [.str s, .int a, .int m] 10000 (fun y => ∃ row, y = .tup (rs row) ∧ RowOk s a.toNat row) := fun n x h hn => by
  obtain ⟨y1, x1, e1, k1, cnt, rfl, a1, a2⟩ := ex_draw (n := 2) (t := [.d (.str s), .d (.int a), .d (.int m), .d (.tup []), .un]) (r := mCons (mBin addD (mVar 2) (mC (.int 1))) (mNil)) (bit_draws (m := a + 1) (by omega) (Nat.lt_of_lt_of_le (log2_lt (k := 10) (by omega) (by decide)) (by decide))) h (by omega) (fun _ => .one (hd_d (p_bin (x := .int a) rfl p_c rfl))) rfl
  obtain ⟨c, rfl⟩ : ∃ c : Nat, cnt = c := ⟨cnt.toNat, by omega⟩
  have it : mSrc rng1 (mCons (mCall 2 m__law_bit (mCons (mVar 0) (mCons (mBin addD (mVar 2) (mC (.int 1))) (mNil)))) (mNil)) [.p x, .d (.str s), .d (.int a), .d (.int m), .d (.tup []), .un] = .ok (rngD 0 c) [.p x1, .d (.str s), .d (.int a), .d (.int m), .d (.tup []), .un] := by
    have := src1i (j := (c : Int)) (cons1 e1) (by omega) (by omega)
    simpa using this
  let I : Nat → List S → Prop := fun k ρ => ∃ (z : D) (row : List Rn) (s5 : S), ρ = [.p z, .d (.str s), .d (.int a), .d (.int m), .d (.tup (rs row)), s5] ∧ TrayOk (n + 1 + 4 * k) z ∧ RowOk s k row ∧ (s5 = .un ∨ ∃ d, s5 = .d d)
  have step : ∀ (i : Nat) (ρ : List S) (d : D), (rngD 0 c)[i]? = some d → I (0 + i) ρ → ∃ ρ', ((match (Tg.nm 5).put d ρ with
      | some ρ2 => sSet 4 (mCall 3 m__law_put_row (mCons (mVar 4) (mCons (mCall 2 m__law_pick (mCons (mVar 0) (mCons (mVar 1) (mNil)))) (mCons (mCall 2 m__law_power (mCons (mVar 0) (mCons (mVar 3) (mNil)))) (mNil))))) ρ2
      | none => .bad) = .nx ρ' ∨ (match (Tg.nm 5).put d ρ with
      | some ρ2 => sSet 4 (mCall 3 m__law_put_row (mCons (mVar 4) (mCons (mCall 2 m__law_pick (mCons (mVar 0) (mCons (mVar 1) (mNil)))) (mCons (mCall 2 m__law_power (mCons (mVar 0) (mCons (mVar 3) (mNil)))) (mNil))))) ρ2
      | none => .bad) = .ct ρ') ∧ I (0 + i + 1) ρ' := fun i ρ d hd hI => by
    obtain ⟨z, row, s5, rfl, hz1, hr, h5⟩ := hI
    have hic := (rngD_get hd).1
    rw [Nat.zero_add] at hz1 hr
    obtain ⟨y2, z2, e2, k2, ch, hc, rfl⟩ := ex_draw (n := 2) (t := [.d (.str s), .d (.int a), .d (.int m), .d (.tup (rs row)), .d d]) (r := mCons (mVar 1) (mNil)) (pick_str hl hz) hz1 (by omega) (fun _ => .one rfl) rfl
    obtain ⟨y3, z3, e3, k3, ex, rfl, x1, x2⟩ := ex_draw (n := 2) (t := [.d (.str s), .d (.int a), .d (.int m), .d (.tup (rs row)), .d d]) (r := mCons (mVar 3) (mNil)) (power_draws h1 h2) k2 (by omega) (fun _ => .one rfl) rfl
    have hlen := hr.len
    obtain ⟨ρf, e4⟩ := putrow_ok (row := row) (l := [ch]) (n := ex) (by omega) (hr.low hs)
    have args : mCons (mVar 4) (mCons (mCall 2 m__law_pick (mCons (mVar 0) (mCons (mVar 1) (mNil)))) (mCons (mCall 2 m__law_power (mCons (mVar 0) (mCons (mVar 3) (mNil)))) (mNil))) [.p z, .d (.str s), .d (.int a), .d (.int m), .d (.tup (rs row)), .d d] = .ok ([D.tup (rs row), .str [ch], .int ex].map HV.d) [.p z3, .d (.str s), .d (.int a), .d (.int m), .d (.tup (rs row)), .d d] := by
      rw [u_cons, u_hold, show mVar 4 [.p z, .d (.str s), .d (.int a), .d (.int m), .d (.tup (rs row)), .d d] = .ok (.d (.tup (rs row))) [.p z, .d (.str s), .d (.int a), .d (.int m), .d (.tup (rs row)), .d d] from rfl, u_bok, u_bok, u_cons, u_hold, e2, u_bok, u_bok, u_cons, u_hold, e3]
      rfl
    refine ⟨[.p z3, .d (.str s), .d (.int a), .d (.int m), .d (.tup (rs (put row ([ch], ex)))), .d d], .inl ?_, z3, put row ([ch], ex), .d d, rfl, ?_, by rw [Nat.zero_add]; exact hr.put hc x2, .inr ⟨d, rfl⟩⟩
    · have pt : (Tg.nm 5).put d [.p z, .d (.str s), .d (.int a), .d (.int m), .d (.tup (rs row)), s5] = some [.p z, .d (.str s), .d (.int a), .d (.int m), .d (.tup (rs row)), .d d] := by
        rcases h5 with rfl | ⟨_, rfl⟩ <;> simp
      rw [pt]
      dsimp only
      have cl : mCall 3 m__law_put_row (mCons (mVar 4) (mCons (mCall 2 m__law_pick (mCons (mVar 0) (mCons (mVar 1) (mNil)))) (mCons (mCall 2 m__law_power (mCons (mVar 0) (mCons (mVar 3) (mNil)))) (mNil)))) [.p z, .d (.str s), .d (.int a), .d (.int m), .d (.tup (rs row)), .d d] = .ok (.d (.tup (rs (put row ([ch], ex))))) [.p z3, .d (.str s), .d (.int a), .d (.int m), .d (.tup (rs row)), .d d] := p_callS args rfl ⟨ρf, e4⟩
      rw [u_set, cl]
      rfl
    · rw [Nat.zero_add]
      exact k3.mono (by omega)
  obtain ⟨ρe, l1, z, row, s5, rfl, l2, l3, l4⟩ := loopM_inv I (rngD 0 c) 0 [.p x1, .d (.str s), .d (.int a), .d (.int m), .d (.tup []), .un] ⟨x1, [], .un, rfl, k1, .nil, .inl rfl⟩ step
  rw [rngD_length, Nat.zero_add] at l2 l3
  refine ⟨.tup (rs row), z, [.d (.str s), .d (.int a), .d (.int m), .d (.tup (rs row)), s5], ?_, l2.mono (by omega), row, rfl, l3.red, by have := l3.len; omega, fun x hx => ⟨(l3.mem x hx).1, Nat.le_trans (l3.mem x hx).2 (Nat.mul_le_mul_right _ (by omega))⟩⟩
  refine fn_eval (b := b__law_row) [.p x, .d (.str s), .d (.int a), .d (.int m), .un, .un] rfl (rv := .d (.tup (rs row))) ?_ rfl
  refine q_seq (ρ1 := [.p x, .d (.str s), .d (.int a), .d (.int m), .d (.tup []), .un]) rfl (q_seq (ρ1 := [.p z, .d (.str s), .d (.int a), .d (.int m), .d (.tup (rs row)), s5]) (for_of it l1) (ev_ret rfl))
end WW
set_option Elab.async false
set_option maxRecDepth 100000
set_option maxHeartbeats 4000000
namespace WW
open PySem MM FG
/-! ### powers, by what they do to rows -/
theorem pw_zero {a : List Rn} : pw a 0 = [] := rfl
theorem repL_succ {α : Type} (n : Nat) (l : List α) : repL (n + 1) l = l ++ repL n l := by
  unfold repL
  rw [List.replicate_succ, List.flatten_cons]
theorem act_pw_succ {a r : List Rn} (hr : Red r) (n : Int) : act (pw a (n + 1)) r = act a (act (pw a n) r) := by
  by_cases h : 0 ≤ n
  · have e1 : (n + 1).natAbs = n.natAbs + 1 := by omega
    unfold pw
    rw [if_neg (by omega), if_neg (by omega), e1, repL_succ, act_app]
  · have e1 : n.natAbs = (n + 1).natAbs + 1 := by omega
    have e2 : pw a n = und a ++ pw a (n + 1) := by
      unfold pw
      rw [if_pos (by omega), e1, repL_succ]
      by_cases h0 : n + 1 = 0
      · rw [h0]
        simp [repL]
      · rw [if_pos (by omega)]
    rw [e2, act_app, act_und' (act_red hr)]
theorem act_pw_pred {a r : List Rn} (hr : Red r) (n : Int) : act (pw a (n - 1)) r = act (und a) (act (pw a n) r) := by
  have := act_pw_succ (a := a) hr (n - 1)
  rw [Int.sub_add_cancel] at this
  rw [this, act_und (act_red hr)]
theorem int_ind {P : Int → Prop} (h0 : P 0) (hs : ∀ n, P n → P (n + 1)) (hp : ∀ n, P n → P (n - 1)) : ∀ n, P n := fun n => by
  have h1 : ∀ k : Nat, P k := fun k => by
    induction k with
    | zero => exact h0
    | succ k ih => exact hs k ih
  have h2 : ∀ k : Nat, P (-(k : Int)) := fun k => by
    induction k with
    | zero => exact h0
    | succ k ih =>
      have := hp _ ih
      rwa [show -(k : Int) - 1 = -((k + 1 : Nat) : Int) by omega] at this
  by_cases h : 0 ≤ n
  · have := h1 n.toNat
    rwa [show (n.toNat : Int) = n by omega] at this
  · have := h2 (-n).toNat
    rwa [show -((-n).toNat : Int) = n by omega] at this
theorem act_pw_add {a r : List Rn} (hr : Red r) (m k : Int) : act (pw a (m + k)) r = act (pw a m) (act (pw a k) r) := by
  refine int_ind (P := fun m => act (pw a (m + k)) r = act (pw a m) (act (pw a k) r)) ?_ (fun i ih => ?_) (fun i ih => ?_) m
  · rw [Int.zero_add]; rfl
  · rw [show i + 1 + k = (i + k) + 1 by omega, act_pw_succ hr, ih, act_pw_succ (act_red hr)]
  · rw [show i - 1 + k = (i + k) - 1 by omega, act_pw_pred hr, ih, act_pw_pred (act_red hr)]
theorem pw_add {a : List Rn} (m k : Int) : nf (nf (pw a m) ++ nf (pw a k)) = nf (pw a (m + k)) := by
  rw [nf_app_nf, nf_app]
  exact (act_pw_add (r := []) trivial m k).symm
theorem act_conj {a b w : List Rn} (hw : ∀ r, Red r → act w r = act b (act a (act (und b) r))) (m : Int) : ∀ r, Red r → act (pw w m) r = act b (act (pw a m) (act (und b) r)) := by
  have inv : ∀ s, Red s → act (und w) s = act b (act (und a) (act (und b) s)) := fun s hs => by
    have h1 : act w (act b (act (und a) (act (und b) s))) = s := by
      rw [hw _ (act_red (act_red (act_red hs))), act_und (act_red (act_red hs)), act_und' (act_red hs), act_und' hs]
    conv => lhs; rw [← h1]
    rw [act_und (act_red (act_red (act_red hs)))]
  refine int_ind (P := fun m => ∀ r, Red r → act (pw w m) r = act b (act (pw a m) (act (und b) r))) ?_ (fun i ih => ?_) (fun i ih => ?_) m
  · exact fun r hr => (act_und' hr).symm
  · exact fun r hr => by rw [act_pw_succ hr, ih r hr, hw _ (act_red (act_red (act_red hr))), act_und (act_red (act_red hr)), act_pw_succ (act_red hr)]
  · exact fun r hr => by rw [act_pw_pred hr, ih r hr, inv _ (act_red (act_red (act_red hr))), act_und (act_red (act_red hr)), act_pw_pred (act_red hr)]
theorem pw_turned {a b : List Rn} (m : Int) : nf (pw (nf (b ++ (a ++ und b))) m) = nf (b ++ (nf (pw a m) ++ und b)) := by
  have h := act_conj (a := a) (b := b) (w := nf (b ++ (a ++ und b))) (fun r hr => by rw [act_nf hr, act_app, act_app]) m [] trivial
  show act _ [] = _
  rw [h, nf_app, nf_app_l, nf_app]
  rfl
theorem turned_back {a b : List Rn} (ha : Red a) : nf (und b ++ (nf (b ++ (a ++ und b)) ++ und (und b))) = a := by
  rw [und_und, nf_app, nf_app_l, ← nf_app]
  have e : und b ++ ((b ++ (a ++ und b)) ++ b) = und b ++ (b ++ (a ++ (und b ++ (b ++ [])))) := by simp
  rw [e, nf_und_l, nf_app, nf_und_l]
  exact nf_self ha
/-! ### words as expressions' values -/
structure V (f : Ex) (R : List S) (s : Lt) (a : List Rn) (k : Nat) : Prop where
  hd : Hd f R (wd s a)
  red : Red a
  low : LowR a
  len : a.length ≤ k
section
variable {f g : Ex} {R : List S} {s : Lt} {a b : List Rn} {k l : Nat}
theorem V.wd (h : V f R s a k) (hk : k ≤ 200) : Wd a := ⟨h.red, h.low, Nat.le_trans h.len hk⟩
theorem V.mono {k' : Nat} (h : V f R s a k) (hk : k ≤ k') : V f R s a k' := ⟨h.hd, h.red, h.low, Nat.le_trans h.len hk⟩
theorem vMul (h : V f R s a k) (h2 : V g R s b l) (hk : k + l ≤ 200) : V (mBinO mulD [("Word", m_Word___mul__)] f g) R s (nf (a ++ b)) (k + l) := by
  have hl : (nf (a ++ b)).length ≤ k + l := Nat.le_trans nf_len (by rw [List.length_append]; exact Nat.add_le_add h.len h2.len)
  exact ⟨hd_f (p_binO h.hd h2.hd rfl (mul_ok (h.wd (by omega)) (h2.wd (by omega)) (by omega))), nf_red, (h.low.app h2.low).nf, hl⟩
theorem vInv (h : V f R s a k) (hk : k ≤ 200) : V (mInv [("Word", m_Word___invert__)] f) R s (und a) k :=
  ⟨hd_f (p_inv h.hd rfl (inv_ok (h.wd hk))), und_red h.red, h.low.und, by rw [und_len]; exact h.len⟩
theorem pw_len {n : Int} : (pw a n).length = n.natAbs * a.length := by
  unfold pw
  rw [repL_length]
  split
  · rw [und_len]
  · rfl
theorem vPow {n : Int} {N : Nat} (h : V f R s a k) (h2 : Hd g R (.int n)) (hn : n.natAbs ≤ N) (hN : N ≤ 400) (hk : N * k ≤ 200) (hk2 : k ≤ 200) : V (mMethO 2 "power" [("Word", m_Word_power)] f (mCons g (mNil))) R s (nf (pw a n)) (N * k) := by
  have hl : (pw a n).length ≤ N * k := by
    rw [pw_len]
    exact Nat.mul_le_mul hn h.len
  have hl2 := Nat.le_trans (nf_len (w := pw a n)) hl
  exact ⟨hd_f (p_meth h.hd rfl rfl (.one h2) rfl (power_ok (h.wd hk2) (by omega) (by omega) (by omega) (by omega))), nf_red, (pw_low h.low).nf, hl2⟩
theorem vTurn (h : V f R s a k) (h2 : V g R s b l) (hk : k + 2 * l ≤ 200) : V (mMethO 2 "turned" [("Word", m_Word_turned)] f (mCons g (mNil))) R s (nf (b ++ (a ++ und b))) (k + 2 * l) := by
  have l1 := h.len
  have l2 := h2.len
  have hl : (nf (b ++ (a ++ und b))).length ≤ k + 2 * l := Nat.le_trans nf_len (by rw [List.length_append, List.length_append, und_len]; omega)
  exact ⟨hd_f (p_meth h.hd rfl rfl (.one h2.hd) rfl (turned_ok (h.wd (by omega)) (h2.wd (by omega)) (by omega))), nf_red, (h2.low.app (h.low.app h2.low.und)).nf, hl⟩
theorem vBrk (h : V f R s a k) (h2 : V g R s b l) (hk : 2 * k + 2 * l ≤ 200) : V (mMethO 2 "bracket" [("Word", m_Word_bracket)] f (mCons g (mNil))) R s (nf (a ++ (b ++ (und a ++ und b)))) (2 * k + 2 * l) := by
  have l1 := h.len
  have l2 := h2.len
  have hl : (nf (a ++ (b ++ (und a ++ und b)))).length ≤ 2 * k + 2 * l := Nat.le_trans nf_len (by rw [List.length_append, List.length_append, List.length_append, und_len, und_len]; omega)
  exact ⟨hd_f (p_meth h.hd rfl rfl (.one h2.hd) rfl (bracket_ok (h.wd (by omega)) (h2.wd (by omega)) (by omega))), nf_red, (h.low.app (h2.low.app (h.low.und.app h2.low.und))).nf, hl⟩
theorem vEqB (h : V f R s a k) (h2 : V g R s b l) : mEqO ["Word"] [("Word", m_Word___eq__)] f g R = .ok (.d (.bl (decide (a = b)))) R := p_eqO h.hd h2.hd rfl rfl (eq_ok h.low h2.low)
theorem vNe (h : V f R s a k) (h2 : V g R s b l) (e : a = b) : mTestB (mNeO ["Word"] [("Word", m_Word___eq__)] f g) R = .ok false R := by
  have := p_test (p_neO (cs := ["Word"]) h.hd h2.hd (own := [("Word", m_Word___eq__)]) rfl rfl (eq_ok h.low h2.low))
  rw [decide_eq_true e] at this
  exact this
theorem vEq (h : V f R s a k) (h2 : V g R s b l) (e : a = b) : mEqO ["Word"] [("Word", m_Word___eq__)] f g R = .ok (.d (.bl true)) R := by
  rw [vEqB h h2, decide_eq_true e]
theorem vRuns (h : V f R s a k) : Hd (mPropO [("Word", m_Word_runs)] f) R (.tup (rs a)) := hd_d (p_prop h.hd rfl runs_ok)
theorem tNe (h : Hd f R (.tup (rs a))) (h2 : Hd g R (.tup (rs b))) (la : LowR a) (e : a = b) : mTestB (mBin neD f g) R = .ok false R := by
  subst e
  have := p_test (p_bin h h2 (neD_rs la la))
  rw [decide_eq_true rfl] at this
  exact this
end
end WW
set_option Elab.async false
set_option maxRecDepth 100000
set_option maxHeartbeats 4000000
namespace WW
open PySem MM FG
/-! ### words of texts -/
theorem chr_facts : ∀ c < 123, 65 ≤ c → (97 ≤ c → lowL [c] = [c] ∧ upL [c] = [c - 32]) ∧ (c ≤ 90 → lowL [c] = [c + 32]) := by decide +kernel
structure WSg (s : Lt) : Prop where
  lt : LetOk s
  low : Low s
  pos : 0 < s.length
  len : s.length ≤ 400
  sm : Small s
  up : upL s = s.map (· - 32)
theorem sg_all {y : D} (h : y ∈ [D.str [97, 98], D.str [97, 98], D.str [97, 98], D.str [120, 121], D.str [97], D.str [97, 98, 99]]) : ∃ s, y = .str s ∧ WSg s := by
  have low : ∀ l : List Nat, (l.all fun c => decide (c < 0x110000)) = true → Low l := fun l h c hc => of_decide_eq_true (List.all_eq_true.mp h c hc)
  have sm : ∀ l : List Nat, (l.all fun c => decide (97 ≤ c ∧ c ≤ 122)) = true → Small l := fun l h c hc => of_decide_eq_true (List.all_eq_true.mp h c hc)
  have a1 : WSg [97, 98] := ⟨⟨_, rfl⟩, low _ rfl, by decide, by decide, sm _ rfl, by decide +kernel⟩
  have a2 : WSg [120, 121] := ⟨⟨_, rfl⟩, low _ rfl, by decide, by decide, sm _ rfl, by decide +kernel⟩
  have a3 : WSg [97] := ⟨⟨_, rfl⟩, low _ rfl, by decide, by decide, sm _ rfl, by decide +kernel⟩
  have a4 : WSg [97, 98, 99] := ⟨⟨_, rfl⟩, low _ rfl, by decide, by decide, sm _ rfl, by decide +kernel⟩
  simp only [List.mem_cons, List.not_mem_nil, or_false] at h
  rcases h with rfl | rfl | rfl | rfl | rfl | rfl
  · exact ⟨_, rfl, a1⟩
  · exact ⟨_, rfl, a1⟩
  · exact ⟨_, rfl, a1⟩
  · exact ⟨_, rfl, a2⟩
  · exact ⟨_, rfl, a3⟩
  · exact ⟨_, rfl, a4⟩
section
variable {s w : Lt} {a : List Rn}
theorem WSg.al (h : WSg s) {c : Nat} : Al s c ↔ c ∈ s ++ upL s := by
  rw [h.up, List.mem_append, List.mem_map]
  constructor
  · rintro (⟨_, h2⟩ | ⟨h1, h2⟩)
    · exact .inl h2
    · exact .inr ⟨c + 32, h2, by omega⟩
  · rintro (h2 | ⟨x, h1, h2⟩)
    · exact .inl ⟨(h.sm c h2).1, h2⟩
    · have := h.sm x h1
      refine .inr ⟨by omega, ?_⟩
      rwa [show c + 32 = x by omega]
theorem al_rng (h : Small s) {c : Nat} (hc : Al s c) : (97 ≤ c ∧ c ≤ 122 ∧ c ∈ s) ∨ (65 ≤ c ∧ c ≤ 90 ∧ ¬ c ∈ s) := by
  rcases hc with ⟨h1, h2⟩ | ⟨h1, h2⟩
  · exact .inl ⟨h1, (h c h2).2, h2⟩
  · have := h _ h2
    refine .inr ⟨by omega, by omega, fun z => ?_⟩
    have := h c z
    omega
theorem low_lt (h : Small s) {c : Nat} (hc : Al s c) : lowL [c] = (FG.lt c).1 := by
  unfold FG.lt
  rcases al_rng h hc with ⟨h1, h2, _⟩ | ⟨h1, h2, _⟩
  · rw [if_pos h1, ((chr_facts c (by omega) (by omega)).1 h1).1]
  · rw [if_neg (by omega), (chr_facts c (by omega) h1).2 h2]
theorem upL_len (h : WSg s) : (s ++ upL s).length = 2 * s.length := by
  rw [h.up, List.length_append, List.length_map]
  omega
theorem up_add (h : WSg s) {f : Ex} {ρ : List S} (hf : Hd f ρ (.str s)) : mBin addD f (mBM "str" upperD f mNil) ρ = .ok (.d (.str (s ++ upL s))) ρ := by
  have hz := szl
  have l1 := h.len
  have l2 := upL_len h
  rw [List.length_append] at l2
  refine p_bin hf (hd_d (p_bm (xs := []) hf .nil rfl (rv := .d (.str (upL s))) ?_)) ?_
  · show (if s.length ≤ 5592405 then some (RV.d (.str (upL s))) else none) = _
    rw [if_pos (by omega)]
  · show (if s.length + (upL s).length ≤ sizeLine then some (RV.d (.str (s ++ upL s))) else none) = _
    rw [if_pos (by omega)]
theorem within_t (h : WSg s) (hw : AlT s w) (hl : w.length ≤ 4000) : Ans m_require_text [.str s, .str w] (.d .non) := by
  have hz := szl
  have r : Ans m_is_text_within [.str s, .str w] (.d (.bl true)) := by
    have lc := mlc_all (ρ0 := [.d (.str s), .d (.str w), .d (.str (s ++ upL s)), .un]) (ρ := [.d (.str s), .d (.str w), .d (.str (s ++ upL s)), .un]) (ρw := [.d (.str s), .d (.str w), .d (.str (s ++ upL s)), .un]) (t := .nm 3) (vs := [3]) (it := mItems (mVar 1)) (f := mBin inD (mVar 3) (mVar 2)) (fun c : Nat => D.str [c]) (fun _ => D.bl true) (fun c => [.d (.str s), .d (.str w), .d (.str (s ++ upL s)), .d (.str [c])]) w (p_items (x := .str w) rfl rfl) rfl rfl rfl (fun _ => rfl) (by omega) fun c hc => ⟨rfl, hd_d (p_bin (x := .str [c]) (y := .str (s ++ upL s)) rfl rfl (by
      show some (RV.d (.bl (decide (c ∈ s ++ upL s)))) = _
      rw [decide_eq_true (h.al.mp (hw c hc))]))⟩
    have al : allD [.lst (w.map fun _ : Nat => D.bl true)] = some (.d (.bl true)) := by
      show (boolsD (w.map fun x : Nat => D.bl ((fun _ => true) x))).map _ = _
      rw [boolsD_map]
      simp
    have ln : mTestB (mBin leD (mCB lenD (mCons (mVar 1) (mNil))) (mC (.int 4000))) [.d (.str s), .d (.str w), .d (.str (s ++ upL s)), .un] = .ok true [.d (.str s), .d (.str w), .d (.str (s ++ upL s)), .un] := by
      refine p_test (p_bin (hd_d (p_cb (xs := [.str w]) (.one rfl) (rv := .d (.int w.length)) ?_)) p_c ?_)
      · show (if w.length ≤ sizeLine then some (RV.d (.int (w.length : Nat))) else none) = _
        rw [if_pos (by omega)]
      · show some (RV.d (.bl (decide ((w.length : Int) ≤ 4000)))) = _
        rw [decide_eq_true (by omega)]
    exact ⟨_, fn_eval (b := b_is_text_within) [.d (.str s), .d (.str w), .un, .un] rfl (q_seq (q_set (up_add h rfl) rfl) (ev_ret (p_andVT rfl (p_andVT ln (p_cb (.one (hd_f lc)) al))))) rfl⟩
  exact ⟨_, fn_evalN (b := b_require_text) [.d (.str s), .d (.str w)] rfl (q_ifF (p_notF (p_truth (hd_d (p_call (.two rfl rfl) rfl r)) rfl)) q_next)⟩
theorem lt_low (h : WSg s) (hw : AlT s w) : LowR (w.map FG.lt) := fun r hr => by
  obtain ⟨x, hx, e⟩ := lt_mem hw r hr
  intro c hc
  rw [e, List.mem_singleton] at hc
  subst hc
  exact h.low c hx
theorem of_ok (h : WSg s) (hw : AlT s w) (hl : w.length ≤ 4000) (hn : (nf (w.map FG.lt)).length ≤ 200) : Ans m_Word_of [.cls "Word", .str s, .str w] (.f (wd s (nf (w.map FG.lt)))) := by
  have hz := szl
  have lc := mlc_all (ρ0 := [.d (.cls "Word"), .d (.str s), .d (.str w), .un]) (ρ := [.d (.cls "Word"), .d (.str s), .d (.str w), .un]) (ρw := [.d (.cls "Word"), .d (.str s), .d (.str w), .un]) (t := .nm 3) (vs := [3]) (it := mItems (mVar 2)) (f := (mTup (mCons (mBM "str" lowerD (mVar 3) mNil) (mCons (mIf (mTestB (mBin inD (mVar 3) (mVar 1))) (mC (.int 1)) (mUn negD (mC (.int 1)))) (mNil))))) (fun c : Nat => D.str [c]) (fun c => rD (FG.lt c)) (fun c => [.d (.cls "Word"), .d (.str s), .d (.str w), .d (.str [c])]) w (p_items (x := .str w) rfl rfl) rfl rfl rfl (fun _ => rfl) (by omega) fun c hc => ⟨rfl, by
    have lo := low_lt h.sm (hw c hc)
    have e1 : (mBM "str" lowerD (mVar 3) mNil) [.d (.cls "Word"), .d (.str s), .d (.str w), .d (.str [c])] = .ok (.d (.str (FG.lt c).1)) [.d (.cls "Word"), .d (.str s), .d (.str w), .d (.str [c])] := by
      refine p_bm (x := .str [c]) (xs := []) rfl .nil rfl ?_
      show (if 1 ≤ 5592405 then some (RV.d (.str (lowL [c]))) else none) = _
      rw [if_pos (by decide), lo]
    have t : mTestB (mBin inD (mVar 3) (mVar 1)) [.d (.cls "Word"), .d (.str s), .d (.str w), .d (.str [c])] = .ok (decide (c ∈ s)) [.d (.cls "Word"), .d (.str s), .d (.str w), .d (.str [c])] := p_test (p_bin (x := .str [c]) (y := .str s) rfl rfl rfl)
    have e2 : (mIf (mTestB (mBin inD (mVar 3) (mVar 1))) (mC (.int 1)) (mUn negD (mC (.int 1)))) [.d (.cls "Word"), .d (.str s), .d (.str w), .d (.str [c])] = .ok (.d (.int (FG.lt c).2)) [.d (.cls "Word"), .d (.str s), .d (.str w), .d (.str [c])] := by
      unfold FG.lt
      rcases al_rng h.sm (hw c hc) with ⟨h1, h2, h3⟩ | ⟨h1, h2, h3⟩
      · rw [decide_eq_true h3] at t
        rw [if_pos h1]
        exact p_ifT t rfl
      · rw [decide_eq_false h3] at t
        rw [if_neg (by omega)]
        exact p_ifF t rfl
    exact hd_d (p_tup (.two (hd_d e1) (hd_d e2)) (by show 2 ≤ sizeLine; omega))⟩
  have e : (w.map fun c => rD (FG.lt c)) = rs (w.map FG.lt) := by simp [rs]
  rw [e] at lc
  exact ⟨_, fn_eval (b := b_Word_of) [.d (.cls "Word"), .d (.str s), .d (.str w), .un] rfl (q_seq (q_exp (p_call (xs := [.str s]) (.one rfl) rfl (reqlet_ok h.lt))) (q_seq (q_exp (p_call (xs := [.str s, .str w]) (.two rfl rfl) rfl (within_t h hw hl))) (ev_ret (p_stat rfl (.two rfl (hd_f lc)) rfl (made_ok (by rw [List.length_map]; omega) (lt_low h hw) (.inl rfl) hn))))) rfl⟩
theorem intsD_map {α : Type} (g : α → Int) : ∀ l : List α, intsD (l.map fun x => D.int (g x)) = some (l.map g)
  | [] => rfl
  | x :: l => by
    show (intsD (l.map fun x => D.int (g x))).map (g x :: ·) = _
    rw [intsD_map g l]
    rfl
def sz (a : List Rn) : Nat := (a.map fun r => r.2.natAbs).sum
theorem sum_nat : ∀ a : List Rn, (a.map fun r => (r.2.natAbs : Int)).sum = (sz a : Int)
  | [] => rfl
  | r :: a => by
    have := sum_nat a
    unfold sz at *
    simp only [List.map_cons, List.sum_cons, Int.natCast_add] at *
    omega
theorem size_ok (hl : a.length ≤ 50000) : Ans m_Word_size [wd s a] (.d (.int (sz a))) := by
  have hz := szl
  have lc := mlc_all (ρ0 := [.d (wd s a), .un, .un]) (ρ := [.d (wd s a), .un, .un]) (ρw := [.d (wd s a), .un, .un]) (t := .tp [.nm 1, .nm 2]) (vs := [1, 2]) (it := mItems (mFld ["Word"] "own_runs" (mVar 0))) (f := mCB absD (mCons (mVar 2) (mNil))) rD (fun r => D.int (r.2.natAbs : Int)) (fun r => [.d (wd s a), .d (.str r.1), .d (.int r.2)]) a (p_items (hd_d (fld_r (s := s) (w := a) rfl)) rfl) rfl rfl rfl (fun _ => rfl) (by omega) fun r _ => ⟨by simp [WW.rD], hd_d (p_cb (xs := [.int r.2]) (.one (p_var rfl)) (by
    show some (RV.d (.int (if r.2 < 0 then -r.2 else r.2))) = _
    congr 3
    split <;> omega))⟩
  refine ⟨_, fn_eval (b := b_Word_size) [.d (wd s a), .un, .un] rfl (ev_ret (p_cb (.one (hd_f lc)) (rv := .d (.int (sz a))) ?_)) rfl⟩
  show (intsD (a.map fun r => D.int ((fun r : Rn => (r.2.natAbs : Int)) r))).map _ = _
  rw [intsD_map, Option.map_some, sum_nat]
theorem sz_len (h : RnS s a) : (ex a).length = sz a := by
  induction a with
  | nil => rfl
  | cons r a ih =>
    obtain ⟨x, _, e⟩ := h r List.mem_cons_self
    rw [ex_cons, List.length_append, ih fun z hz => h z (List.mem_cons_of_mem _ hz), ex1_len (s := s) e]
    simp [sz]
theorem rep1 (n : Nat) (x : Nat) : repL n [x] = List.replicate n x := by
  induction n with
  | zero => rfl
  | succ n ih =>
    have : repL (n + 1) [x] = [x] ++ repL n [x] := repL_succ n [x]
    rw [this, ih, List.replicate_succ]
    rfl
theorem shortest_ok (h : Small s) (ha : RnS s a) (hl : a.length ≤ 50000) (hz4 : sz a ≤ 4000) : Ans m_Word_shortest [wd s a] (.d (.str (ex a))) := by
  have hz := szl
  have big : ∀ r ∈ a, r.2.natAbs ≤ 4000 := fun r hr => by
    refine Nat.le_trans ?_ hz4
    unfold sz
    clear hz4 hl ha
    induction a with
    | nil => cases hr
    | cons y t ih =>
      simp only [List.map_cons, List.sum_cons]
      rcases List.mem_cons.mp hr with rfl | hr
      · omega
      · have := ih hr
        omega
  have t0 : mTestB (mBin gtD (mPropO [("Word", m_Word_size)] (mVar 0)) (mC (.int 4000))) [.d (wd s a), .un, .un, .un] = .ok false [.d (wd s a), .un, .un, .un] := by
    refine p_test (p_bin (hd_d (p_prop (p_var rfl) rfl (size_ok hl))) p_c ?_)
    show some (RV.d (.bl (decide ((4000 : Int) < sz a)))) = _
    rw [decide_eq_false (by omega)]
  have lc := mlc_all (ρ0 := [.d (wd s a), .un, .un, .un]) (ρ := [.d (wd s a), .un, .un, .un]) (ρw := [.d (wd s a), .un, .un, .un]) (t := .tp [.nm 2, .nm 3]) (vs := [2, 3]) (it := mItems (mFld ["Word"] "own_runs" (mVar 0))) (f := (mIf (mTestB (mBin gtD (mVar 3) (mC (.int 0)))) (mBin mulD (mVar 2) (mVar 3)) (mBin mulD (mBM "str" upperD (mVar 2) mNil) (mUn negD (mVar 3))))) rD (fun r => D.str (ex1 r)) (fun r => [.d (wd s a), .un, .d (.str r.1), .d (.int r.2)]) a (p_items (hd_d (fld_r (s := s) (w := a) rfl)) rfl) rfl rfl rfl (fun _ => rfl) (by omega) fun r hr => ⟨by simp [WW.rD], by
    obtain ⟨x, hx, e⟩ := ha r hr
    have hb := big r hr
    have hx2 := h x hx
    have t : mTestB (mBin gtD (mVar 3) (mC (.int 0))) [.d (wd s a), .un, .d (.str r.1), .d (.int r.2)] = .ok (decide (0 < r.2)) [.d (wd s a), .un, .d (.str r.1), .d (.int r.2)] := rfl
    have mul : ∀ (z : Nat) (n : Int), 0 ≤ n → n ≤ 4000 → mulD (.str [z]) (.int n) = some (.d (.str (List.replicate n.toNat z))) := fun z n h0 h1 => by
      show (if 1 * n.toNat ≤ sizeLine ∧ n ≤ 16777216 ∧ -(2 ^ 63) ≤ n then some (RV.d (.str (repL n.toNat [z]))) else none) = _
      rw [if_pos ⟨by omega, by omega, by omega⟩, rep1]
    have ee : ex1 r = if 0 < r.2 then List.replicate r.2.toNat x else List.replicate (-r.2).toNat (x - 32) := by
      unfold ex1
      rw [e]
    by_cases c : 0 < r.2
    · rw [decide_eq_true c] at t
      rw [ee, if_pos c]
      refine hd_d (p_ifT t (p_bin (x := .str [x]) (y := .int r.2) (by rw [e]; rfl) rfl (mul x r.2 (by omega) (by omega))))
    · rw [decide_eq_false c] at t
      rw [ee, if_neg c]
      refine hd_d (p_ifF t (p_bin (x := .str [x - 32]) (y := .int (-r.2)) (hd_d (p_bm (x := .str [x]) (xs := []) (by rw [e]; rfl) .nil rfl ?_)) (hd_d (p_un (x := .int r.2) rfl rfl)) (mul (x - 32) (-r.2) (by omega) (by omega))))
      show (if 1 ≤ 5592405 then some (RV.d (.str (upL [x]))) else none) = _
      rw [if_pos (by decide), ((chr_facts x (by omega) (by omega)).1 hx2.1).2]⟩
  have jn : joinD (.str []) [.lst (a.map fun r => D.str (ex1 r))] = some (.d (.str (ex a))) := by
    have e1 : strsD (a.map fun r => D.str (ex1 r)) = some (a.map ex1) := by
      have := strsD_map (a.map ex1)
      rwa [List.map_map] at this
    have e2 : ((a.map ex1).map List.length).sum ≤ 4000 := by
      rw [← List.length_flatten]
      have := sz_len ha
      unfold ex at this
      omega
    show (match strsD (a.map fun r => D.str (ex1 r)) with
      | some ys => if (ys.map List.length).sum + ys.length * 0 ≤ 16777216 then some (RV.d (.str (TL.joinL [] ys))) else none
      | none => none) = _
    rw [e1]
    dsimp only
    rw [if_pos (by omega), joinL_nil]
    rfl
  refine ⟨_, fn_eval (b := b_Word_shortest) [.d (wd s a), .un, .un, .un] rfl (rv := .d (.str (ex a))) (ρ1 := [.d (wd s a), .o (.lst (a.map fun r => D.str (ex1 r))), .un, .un]) (q_seq (q_ifF t0 q_next) (q_seq (q_set lc rfl) (ev_ret ?_))) rfl⟩
  rw [u_bm]
  simp [jn, isTy]
end
end WW
set_option Elab.async false
set_option maxRecDepth 100000
set_option maxHeartbeats 4000000
namespace K04
open PySem MM

def xnames : List Str := [("CountError" : Str), ("InvalidLetters" : Str), ("InvalidText" : Str), ("InvalidOperation" : Str), ("Word" : Str)]
abbrev b_are_small : Sm := WW.b_are_small
abbrev m_are_small : Fn := WW.m_are_small
abbrev b_is_letters : Sm := WW.b_is_letters
abbrev m_is_letters : Fn := WW.m_is_letters
abbrev b_require_letters : Sm := WW.b_require_letters
abbrev m_require_letters : Fn := WW.m_require_letters
abbrev b_is_integer : Sm := WW.b_is_integer
abbrev m_is_integer : Fn := WW.m_is_integer
abbrev b_is_run : Sm := WW.b_is_run
abbrev m_is_run : Fn := WW.m_is_run
abbrev b_require_runs : Sm := WW.b_require_runs
abbrev m_require_runs : Fn := WW.m_require_runs
abbrev b_joint : Sm := WW.b_joint
abbrev m_joint : Fn := WW.m_joint
abbrev b_shortened (m : Fn) : Sm := WW.b_shortened m
abbrev mm_shortened : Nat → Fn := WW.mm_shortened
abbrev m_shortened : Fn := WW.m_shortened
abbrev b_Word___init__ : Sm := WW.b_Word___init__
abbrev m_Word___init__ : Fn := WW.m_Word___init__
abbrev b_Word_made : Sm := WW.b_Word_made
abbrev m_Word_made : Fn := WW.m_Word_made
abbrev b_is_text_within : Sm := WW.b_is_text_within
abbrev m_is_text_within : Fn := WW.m_is_text_within
abbrev b_require_text : Sm := WW.b_require_text
abbrev m_require_text : Fn := WW.m_require_text
abbrev b_Word_of : Sm := WW.b_Word_of
abbrev m_Word_of : Fn := WW.m_Word_of
abbrev b_Word_runs : Sm := WW.b_Word_runs
abbrev m_Word_runs : Fn := WW.m_Word_runs
abbrev b_Word_size : Sm := WW.b_Word_size
abbrev m_Word_size : Fn := WW.m_Word_size
abbrev b_Word_shortest : Sm := WW.b_Word_shortest
abbrev m_Word_shortest : Fn := WW.m_Word_shortest
abbrev b_Word___eq__ : Sm := WW.b_Word___eq__
abbrev m_Word___eq__ : Fn := WW.m_Word___eq__
abbrev b__law_bit : Sm := WW.b__law_bit
abbrev m__law_bit : Fn := WW.m__law_bit
abbrev b__law_pick : Sm := WW.b__law_pick
abbrev m__law_pick : Fn := WW.m__law_pick
def b__law_cleared : Sm := sSeq (sSet 2 (mLc (mSrc rng1 (mCons (mBin subD (mCB lenD (mCons (mVar 1) (mNil))) (mC (.int 1))) (mNil))) (.nm 3) [3] (mAndT (mTestB (mBin neD (mBin ixD (mVar 1) (mVar 3)) (mBin ixD (mVar 1) (mBin addD (mVar 3) (mC (.int 1)))))) (mTestB (mBin eqD (mBM "str" lowerD (mBin ixD (mVar 1) (mVar 3)) mNil) (mBM "str" lowerD (mBin ixD (mVar 1) (mBin addD (mVar 3) (mC (.int 1)))) mNil)))) (mVar 3))) (sSeq (whileM (mTestB (mBin neD (mVar 2) (mLst (mNil)))) (sSeq (sSet 3 (mCall 2 m__law_pick (mCons (mVar 0) (mCons (mVar 2) (mNil))))) (sSeq (sSet 1 (mBin addD (mSlice sliceD (mVar 1) (mNoPart) (mPart (mVar 3))) (mSlice sliceD (mVar 1) (mPart (mBin addD (mVar 3) (mC (.int 2)))) (mNoPart)))) (sSet 2 (mLc (mSrc rng1 (mCons (mBin subD (mCB lenD (mCons (mVar 1) (mNil))) (mC (.int 1))) (mNil))) (.nm 3) [3] (mAndT (mTestB (mBin neD (mBin ixD (mVar 1) (mVar 3)) (mBin ixD (mVar 1) (mBin addD (mVar 3) (mC (.int 1)))))) (mTestB (mBin eqD (mBM "str" lowerD (mBin ixD (mVar 1) (mVar 3)) mNil) (mBM "str" lowerD (mBin ixD (mVar 1) (mBin addD (mVar 3) (mC (.int 1)))) mNil)))) (mVar 3))))) 100000) (sRet (mVar 1)))
def m__law_cleared : Fn := fnM 4 b__law_cleared
def b__law_mixed : Sm := sRet (mBM "str" joinD (mC (.str [])) (mCons (mLc (mSrc rng1 (mCons (mCall 2 m__law_bit (mCons (mVar 0) (mCons (mBin addD (mVar 2) (mC (.int 1))) (mNil)))) (mNil))) (.nm 3) [3] (mYes) (mCall 2 m__law_pick (mCons (mVar 0) (mCons (mBin addD (mVar 1) (mBM "str" upperD (mVar 1) mNil)) (mNil))))) (mNil)))
def m__law_mixed : Fn := fnM 4 b__law_mixed
def b__law_padded : Sm := sSeq (sFor (mSrc rng1 (mCons (mCall 2 m__law_bit (mCons (mVar 0) (mCons (mC (.int 4)) (mNil)))) (mNil))) (.nm 3) (sSeq (sPar [4, 5] [mCall 2 m__law_bit (mCons (mVar 0) (mCons (mBin addD (mCB lenD (mCons (mVar 2) (mNil))) (mC (.int 1))) (mNil))), mCall 2 m__law_pick (mCons (mVar 0) (mCons (mVar 1) (mNil)))]) (sSeq (sSet 6 (mIf (mTestB (mBin eqD (mCall 2 m__law_bit (mCons (mVar 0) (mCons (mC (.int 2)) (mNil)))) (mC (.int 0)))) (mBin addD (mVar 5) (mBM "str" upperD (mVar 5) mNil)) (mBin addD (mBM "str" upperD (mVar 5) mNil) (mVar 5)))) (sSet 2 (mBin addD (mBin addD (mSlice sliceD (mVar 2) (mNoPart) (mPart (mVar 4))) (mVar 6)) (mSlice sliceD (mVar 2) (mPart (mVar 4)) (mNoPart))))))) (sRet (mVar 2))
def m__law_padded : Fn := fnM 7 b__law_padded
abbrev b__law_put_row : Sm := WW.b__law_put_row
abbrev m__law_put_row : Fn := WW.m__law_put_row
def b__law_row_of : Sm := sSeq (sSet 1 (mTup (mNil))) (sSeq (sFor (mItems (mVar 0)) (.nm 2) (sSet 1 (mCall 3 m__law_put_row (mCons (mVar 1) (mCons (mBM "str" lowerD (mVar 2) mNil) (mCons (mIf (mTestB (mBin eqD (mVar 2) (mBM "str" lowerD (mVar 2) mNil))) (mC (.int 1)) (mUn negD (mC (.int 1)))) (mNil))))))) (sRet (mVar 1)))
def m__law_row_of : Fn := fnM 3 b__law_row_of
abbrev b__law_signs : Sm := WW.b__law_signs
abbrev m__law_signs : Fn := WW.m__law_signs
def b__law_right : Sm := sSeq (sSet 1 (mCall 1 m__law_signs (mCons (mVar 0) (mNil)))) (sSeq (sSet 2 (mCall 3 m__law_mixed (mCons (mVar 0) (mCons (mVar 1) (mCons (mC (.int 14)) (mNil)))))) (sSeq (sPar [3, 4] [mClsM 3 "Word" m_Word_of (mC (.cls "Word")) (mCons (mVar 1) (mCons (mVar 2) (mNil))), mCall 2 m__law_cleared (mCons (mVar 0) (mCons (mVar 2) (mNil)))]) (sSeq (sIf (mOrT (mTestB (mBin neD (mPropO [("Word", m_Word_runs)] (mVar 3)) (mCall 1 m__law_row_of (mCons (mVar 2) (mNil))))) (mOrT (mTestB (mBin neD (mMethO 1 "shortest" [("Word", m_Word_shortest)] (mVar 3) mNil) (mVar 4))) (mOrT (mTestB (mBin neD (mPropO [("Word", m_Word_size)] (mVar 3)) (mCB lenD (mCons (mVar 4) (mNil))))) (mTestB (mBin neD (mCall 2 m__law_cleared (mCons (mVar 0) (mCons (mVar 2) (mNil)))) (mVar 4)))))) (sRet (mC (.bl false))) (sNext)) (sSeq (sIf (mOrT (mTestB (mNeO ["Word"] [("Word", m_Word___eq__)] (mClsM 3 "Word" m_Word_of (mC (.cls "Word")) (mCons (mVar 1) (mCons (mVar 4) (mNil)))) (mVar 3))) (mTestB (mNeO ["Word"] [("Word", m_Word___eq__)] (mMake 4 "Word" m_Word___init__ [.bl true] (mCons (mVar 1) (mCons (mCall 1 m__law_row_of (mCons (mVar 4) (mNil))) (mNil)))) (mVar 3)))) (sRet (mC (.bl false))) (sNext)) (sSeq (sSet 5 (mCall 3 m__law_padded (mCons (mVar 0) (mCons (mVar 1) (mCons (mVar 2) (mNil)))))) (sSeq (sSet 6 (mCall 2 m__law_bit (mCons (mVar 0) (mCons (mBin addD (mCB lenD (mCons (mVar 2) (mNil))) (mC (.int 1))) (mNil))))) (sSeq (sSet 7 (mBin addD (mBin addD (mSlice sliceD (mVar 2) (mNoPart) (mPart (mVar 6))) (mCall 2 m__law_pick (mCons (mVar 0) (mCons (mBin addD (mVar 1) (mBM "str" upperD (mVar 1) mNil)) (mNil))))) (mSlice sliceD (mVar 2) (mPart (mBin addD (mVar 6) (mC (.int 1)))) (mNoPart)))) (sSeq (sFor (mItems (mTup (mCons (mVar 5) (mCons (mVar 7) (mCons (mVar 4) (mCons (mUn revD (mVar 2)) (mCons (mCall 3 m__law_mixed (mCons (mVar 0) (mCons (mVar 1) (mCons (mC (.int 4)) (mNil))))) (mNil)))))))) (.nm 8) (sIf (mTestB (mBin neD (mEqO ["Word"] [("Word", m_Word___eq__)] (mClsM 3 "Word" m_Word_of (mC (.cls "Word")) (mCons (mVar 1) (mCons (mVar 8) (mNil)))) (mVar 3)) (mBin eqD (mCall 2 m__law_cleared (mCons (mVar 0) (mCons (mVar 8) (mNil)))) (mVar 4)))) (sRet (mC (.bl false))) (sNext))) (sRet (mEqO ["Word"] [("Word", m_Word___eq__)] (mClsM 3 "Word" m_Word_of (mC (.cls "Word")) (mCons (mVar 1) (mCons (mVar 5) (mNil)))) (mVar 3)))))))))))
def m__law_right : Fn := fnM 9 b__law_right
abbrev b__law_tray : Sm := WW.b__law_tray
abbrev m__law_tray : Fn := WW.m__law_tray
def b_law : Sm := sSeq (sFor (mSrc rng1 (mCons (mCB maxD (mCons (mC (.int 1)) (mCons (mCB minD (mCons (mC (.int 6)) (mCons (mCB lenD (mCons (mVar 0) (mNil))) (mNil)))) (mNil)))) (mNil))) (.nm 1) (sSeq (sSet 2 (mCall 2 m__law_tray (mCons (mVar 0) (mCons (mVar 1) (mNil))))) (sFor (mSrc rng1 (mCons (mC (.int 4)) (mNil))) (.nm 3) (sIf (mNotT (mTruth (mCall 1 m__law_right (mCons (mVar 2) (mNil))))) (sRet (mC (.bl false))) (sNext))))) (sSeq (sSet 4 (mLst (mCons (mMethO 1 "shortest" [("Word", m_Word_shortest)] (mClsM 3 "Word" m_Word_of (mC (.cls "Word")) (mCons (mC (.str [97, 98])) (mCons (mC (.str [97, 98, 66, 66, 97])) (mNil)))) mNil) (mCons (mPropO [("Word", m_Word_runs)] (mClsM 3 "Word" m_Word_of (mC (.cls "Word")) (mCons (mC (.str [97, 98])) (mCons (mC (.str [97, 98, 66, 65])) (mNil))))) (mCons (mPropO [("Word", m_Word_size)] (mClsM 3 "Word" m_Word_of (mC (.cls "Word")) (mCons (mC (.str [97, 98])) (mCons (mC (.str [97, 65, 97, 65])) (mNil))))) (mCons (mPropO [("Word", m_Word_runs)] (mClsM 3 "Word" m_Word_of (mC (.cls "Word")) (mCons (mC (.str [120, 121, 122])) (mCons (mC (.str [122, 122, 90, 88, 120])) (mNil))))) (mNil))))))) (sRet (mAndV (mBin eqD (mVar 4) (mLst (mCons (mC (.str [97, 66, 97])) (mCons (mTup (mNil)) (mCons (mC (.int 0)) (mCons (mTup (mCons (mTup (mCons (mC (.str [122])) (mCons (mC (.int 1)) (mNil)))) (mNil))) (mNil))))))) (mBin eqD (mPropO [("Word", m_Word_runs)] (mClsM 3 "Word" m_Word_of (mC (.cls "Word")) (mCons (mC (.str [97])) (mCons (mBin mulD (mC (.str [65])) (mC (.int 4000))) (mNil))))) (mTup (mCons (mTup (mCons (mC (.str [97])) (mCons (mUn negD (mC (.int 4000))) (mNil)))) (mNil)))))))
def m_law : Fn := fnM 5 b_law
end K04
set_option Elab.async false
set_option maxRecDepth 100000
set_option maxHeartbeats 4000000
namespace K04
open PySem MM FG WW
abbrev rn (c : Nat) : Rn := FG.lt c
theorem lens {w : Lt} (h : w.length ≤ 100000) : lenD [.str w] = some (.d (.int (w.length : Nat))) := by
  have hz := szl
  show (if w.length ≤ sizeLine then some (RV.d (.int (w.length : Nat))) else none) = _
  rw [if_pos (by omega)]
theorem ones {s : Lt} : ∀ ys : List D, (∀ y ∈ ys, ∃ c, Al s c ∧ y = .str [c]) → ∃ w : Lt, ys = w.map (fun c => D.str [c]) ∧ AlT s w
  | [], _ => ⟨[], rfl, fun _ h => by cases h⟩
  | y :: ys, h => by
    obtain ⟨c, hc, rfl⟩ := h y List.mem_cons_self
    obtain ⟨w, rfl, hw⟩ := ones ys fun z hz => h z (List.mem_cons_of_mem _ hz)
    refine ⟨c :: w, rfl, fun z hz => ?_⟩
    rcases List.mem_cons.mp hz with rfl | hz
    · exact hc
    · exact hw z hz
theorem flat1 : ∀ w : Lt, (w.map fun c => [c]).flatten = w
  | [] => rfl
  | c :: w => by
    rw [List.map_cons, List.flatten_cons, flat1 w]
    rfl
theorem join1 {w : Lt} (h : w.length ≤ 100000) : joinD (.str []) [.lst (w.map fun c => D.str [c])] = some (.d (.str w)) := by
  have e1 : strsD (w.map fun c => D.str [c]) = some (w.map fun c => [c]) := by
    have := strsD_map (w.map fun c => [c])
    rwa [List.map_map] at this
  have e2 : (w.map fun c => [c]).flatten = w := flat1 w
  have e3 : ((w.map fun c => [c]).map List.length).sum = w.length := by
    rw [← List.length_flatten, e2]
  show (match strsD (w.map fun c => D.str [c]) with
    | some ys => if (ys.map List.length).sum + ys.length * 0 ≤ 16777216 then some (RV.d (.str (TL.joinL [] ys))) else none
    | none => none) = _
  rw [e1]
  dsimp only
  rw [e3, if_pos (by omega), joinL_nil, e2]
theorem mixed_draws {s : Lt} {m : Int} (h : WSg s) (hm : 0 ≤ m) (hm2 : m ≤ 1000) : Draws m__law_mixed [.str s, .int m] 2000 (fun y => ∃ w, y = .str w ∧ AlT s w ∧ w.length ≤ m.toNat) := fun n x hx hn => by
  have hz := szl
  have lup := upL_len h
  have l0 := h.len
  have lp := h.pos
  obtain ⟨y1, x1, e1, k1, cnt, rfl, a1, a2⟩ := ex_draw (n := 2) (t := [.d (.str s), .d (.int m), .un]) (r := mCons (mBin addD (mVar 2) (mC (.int 1))) (mNil)) (bit_draws (m := m + 1) (by omega) (Nat.lt_of_lt_of_le (log2_lt (k := 10) (by omega) (by decide)) (by decide))) hx (by omega) (fun _ => .one (hd_d (p_bin (x := .int m) rfl p_c rfl))) rfl
  obtain ⟨c, rfl⟩ : ∃ c : Nat, cnt = c := ⟨cnt.toNat, by omega⟩
  have it : mSrc rng1 (mCons (mCall 2 m__law_bit (mCons (mVar 0) (mCons (mBin addD (mVar 2) (mC (.int 1))) (mNil)))) (mNil)) [.p x, .d (.str s), .d (.int m), .un] = .ok (rngD 0 c) [.p x1, .d (.str s), .d (.int m), .un] := by
    have := src1i (j := (c : Int)) (cons1 e1) (by omega) (by omega)
    simpa using this
  obtain ⟨ys, x2, e2, k2, l2, p2⟩ := lcM_draw (v := 2) (f := mCall 2 m__law_pick (mCons (mVar 0) (mCons (mBin addD (mVar 1) (mBM "str" upperD (mVar 1) mNil)) (mNil)))) (P := fun y => ∃ ch, Al s ch ∧ y = .str [ch]) 1 (n + 2000) (t := [.d (.str s), .d (.int m), .un]) rfl (fun n' x' z h' hn' => by
    obtain ⟨y, x'', e, k, ch, hc, rfl⟩ := ex_draw (n := 2) (t := [S.d (.str s), .d (.int m), .d z]) (r := mCons (mBin addD (mVar 1) (mBM "str" upperD (mVar 1) mNil)) (mNil)) (pick_str (s := s ++ upL s) (by omega) (by omega)) h' (by omega) (fun _ => .one (hd_d (up_add h rfl))) rfl
    exact ⟨_, x'', force_of e, k, ch, h.al.mpr hc, rfl⟩) (rngD 0 c) (n + 1) x1 k1 (by rw [rngD_length]; omega)
  rw [rngD_length] at l2 k2
  obtain ⟨w, rfl, hw⟩ := ones ys p2
  rw [List.length_map] at l2
  have m1 : mLc (mSrc rng1 (mCons (mCall 2 m__law_bit (mCons (mVar 0) (mCons (mBin addD (mVar 2) (mC (.int 1))) (mNil)))) (mNil))) (.nm 3) [3] (mYes) (mCall 2 m__law_pick (mCons (mVar 0) (mCons (mBin addD (mVar 1) (mBM "str" upperD (mVar 1) mNil)) (mNil)))) [.p x, .d (.str s), .d (.int m), .un] = .ok (.f (.lst (w.map fun c => D.str [c]))) [.p x2, .d (.str s), .d (.int m), .un] := by
    unfold mLc
    rw [it, bind_ok, if_pos (show hidOk _ _ = true from rfl), show wipeS [S.p x1, .d (.str s), .d (.int m), .un] [3] = [S.p x1, .d (.str s), .d (.int m), .un] from rfl, e2]
    show (if (w.map fun c => D.str [c]).length ≤ sizeLine then _ else R.bad) = _
    rw [if_pos (by rw [List.length_map]; omega)]
    rfl
  refine ⟨.str w, x2, [.d (.str s), .d (.int m), .un], fn_eval (b := b__law_mixed) [.p x, .d (.str s), .d (.int m), .un] rfl (rv := .d (.str w)) (ev_ret ?_) rfl, k2.mono (by omega), w, rfl, hw, by omega⟩
  have jn := join1 (w := w) (by omega)
  rw [u_bm, u_hold, u_c, u_bok, u_bok]
  dsimp only [peekH]
  rw [if_pos (show isTy "str" (D.str []) = true from rfl), u_cons, u_hold, m1, u_bok, u_bok, u_nil, u_bok, u_bok]
  dsimp only [peekH, peekHs]
  show MM.ret (joinD (.str []) [.lst (w.map fun c => D.str [c])]) _ = _
  rw [jn]
  rfl
theorem rowof_ok {s w : Lt} (h : WSg s) (hw : AlT s w) (hl : w.length ≤ 40000) : Ans m__law_row_of [.str w] (.d (.tup (rs (nf (w.map FG.lt))))) := by
  let I : Nat → List S → Prop := fun k ρ => ∃ s2 : S, ρ = [.d (.str w), .d (.tup (rs (((w.take k).map FG.lt).foldl put []))), s2] ∧ (s2 = .un ∨ ∃ d, s2 = .d d)
  have it : mItems (mVar 0) [.d (.str w), .d (.tup []), .un] = .ok (w.map fun c => D.str [c]) [.d (.str w), .d (.tup []), .un] := p_items (x := .str w) rfl rfl
  obtain ⟨ρe, l1, s2, rfl, h2⟩ := loopM_inv (body := fun x ρ => match (Tg.nm 2).put x ρ with
    | some ρ2 => (sSet 1 (mCall 3 m__law_put_row (mCons (mVar 1) (mCons (mBM "str" lowerD (mVar 2) mNil) (mCons (mIf (mTestB (mBin eqD (mVar 2) (mBM "str" lowerD (mVar 2) mNil))) (mC (.int 1)) (mUn negD (mC (.int 1)))) (mNil)))))) ρ2
    | none => .bad) I (w.map fun c => D.str [c]) 0 [.d (.str w), .d (.tup []), .un] ⟨.un, rfl, .inl rfl⟩ (fun i ρ d hd hI => by
      obtain ⟨s2, rfl, h2⟩ := hI
      rw [Nat.zero_add]
      have hi : i < w.length := by
        have := (List.getElem?_eq_some_iff.mp hd).1
        simpa using this
      have ed : d = .str [w[i]] := by
        simp [hi] at hd
        exact hd.symm
      subst ed
      have hc := hw w[i] (List.getElem_mem hi)
      have pt : (Tg.nm 2).put (.str [w[i]]) [.d (.str w), .d (.tup (rs (((w.take i).map FG.lt).foldl put []))), s2] = some [.d (.str w), .d (.tup (rs (((w.take i).map FG.lt).foldl put []))), .d (.str [w[i]])] := by
        rcases h2 with rfl | ⟨_, rfl⟩ <;> simp
      have lo : (mBM "str" lowerD (mVar 2) mNil) [.d (.str w), .d (.tup (rs (((w.take i).map FG.lt).foldl put []))), .d (.str [w[i]])] = .ok (.d (.str (FG.lt w[i]).1)) [.d (.str w), .d (.tup (rs (((w.take i).map FG.lt).foldl put []))), .d (.str [w[i]])] := by
        refine p_bm (x := .str [w[i]]) (xs := []) rfl .nil rfl ?_
        show (if 1 ≤ 5592405 then some (RV.d (.str (lowL [w[i]]))) else none) = _
        rw [if_pos (by decide), low_lt h.sm hc]
      have sg : (mIf (mTestB (mBin eqD (mVar 2) (mBM "str" lowerD (mVar 2) mNil))) (mC (.int 1)) (mUn negD (mC (.int 1)))) [.d (.str w), .d (.tup (rs (((w.take i).map FG.lt).foldl put []))), .d (.str [w[i]])] = .ok (.d (.int (FG.lt w[i]).2)) [.d (.str w), .d (.tup (rs (((w.take i).map FG.lt).foldl put []))), .d (.str [w[i]])] := by
        have t := p_test (p_bin (ρ := [.d (.str w), .d (.tup (rs (((w.take i).map FG.lt).foldl put []))), .d (.str [w[i]])]) (a := mVar 2) (x := .str [w[i]]) rfl (hd_d lo) eqD_lt)
        generalize w[i] = c at t hc ⊢
        unfold FG.lt at t ⊢
        by_cases q : 97 ≤ c
        · rw [if_pos q] at t ⊢
          rw [decide_eq_true rfl] at t
          exact p_ifT t rfl
        · rw [if_neg q] at t ⊢
          rw [decide_eq_false (by simp)] at t
          exact p_ifF t rfl
      have lt' : LowR ((w.take i).map FG.lt) := lt_low h fun z hz => hw z (List.mem_of_mem_take hz)
      have e0 : ((w.take i).map FG.lt).foldl put [] = nf ((w.take i).map FG.lt) := puts_nf (row := []) trivial
      have le : (((w.take i).map FG.lt).foldl put []).length ≤ i := by
        rw [e0]
        refine Nat.le_trans nf_len ?_
        rw [List.length_map, List.length_take]
        omega
      refine ⟨_, .inl ?_, .d (.str [w[i]]), rfl, .inr ⟨_, rfl⟩⟩
      rw [pt]
      refine q_set (p_call (xs := [.tup (rs (((w.take i).map FG.lt).foldl put [])), .str (FG.lt w[i]).1, .int (FG.lt w[i]).2]) (.three rfl (hd_d lo) (hd_d sg)) rfl (putrow_ok (by omega) (by rw [e0]; exact lt'.nf))) ?_
      rw [List.take_succ_eq_append_getElem hi, List.map_append, List.foldl_append]
      rfl)
  rw [List.length_map, Nat.zero_add, List.take_length, puts_nf (row := []) trivial, List.nil_append] at l1
  exact ⟨_, fn_eval (b := b__law_row_of) [.d (.str w), .un, .un] rfl (rv := .d (.tup (rs (nf (w.map FG.lt))))) (q_seq (ρ1 := [.d (.str w), .d (.tup []), .un]) rfl (q_seq (for_of it l1) (ev_ret rfl))) rfl⟩
/-! ### neighbours taken out -/
def spB (w : Lt) (i : Nat) : Bool := decide (w.getD i 0 ≠ w.getD (i + 1) 0) && decide ((FG.lt (w.getD i 0)).1 = (FG.lt (w.getD (i + 1) 0)).1)
def spots (w : Lt) : List Nat := (List.range (w.length - 1)).filter (spB w)
def spD (w : Lt) : D := .lst ((spots w).map fun i : Nat => .int (0 + (i : Int)))
def scE : Ex := (mLc (mSrc rng1 (mCons (mBin subD (mCB lenD (mCons (mVar 1) (mNil))) (mC (.int 1))) (mNil))) (.nm 3) [3] (mAndT (mTestB (mBin neD (mBin ixD (mVar 1) (mVar 3)) (mBin ixD (mVar 1) (mBin addD (mVar 3) (mC (.int 1)))))) (mTestB (mBin eqD (mBM "str" lowerD (mBin ixD (mVar 1) (mVar 3)) mNil) (mBM "str" lowerD (mBin ixD (mVar 1) (mBin addD (mVar 3) (mC (.int 1)))) mNil)))) (mVar 3))
theorem getD_al {s w : Lt} (hw : AlT s w) {i : Nat} (h : i < w.length) : Al s (w.getD i 0) := by
  rw [List.getD_eq_getElem?_getD, List.getElem?_eq_getElem h]
  exact hw _ (List.getElem_mem h)
theorem sc_ok {s w : Lt} {x : D} {s2 s3 : S} (h : WSg s) (hw : AlT s w) (hl : w.length ≤ 10000) (h3 : s3 = .un ∨ ∃ d, s3 = .d d) : scE [.p x, .d (.str w), s2, s3] = .ok (.f (spD w)) [.p x, .d (.str w), s2, s3] := by
  have hz := szl
  have it : mSrc rng1 (mCons (mBin subD (mCB lenD (mCons (mVar 1) (mNil))) (mC (.int 1))) (mNil)) [.p x, .d (.str w), s2, s3] = .ok ((List.range (w.length - 1)).map fun i : Nat => .int (0 + (i : Int))) [.p x, .d (.str w), s2, s3] := by
    have ln := p_cb (ρ := [.p x, .d (.str w), s2, s3]) (xs := [.str w]) (r := mCons (mVar 1) mNil) (.one rfl) (lens (by omega))
    have sb := p_bin (hd_d ln) (b := mC (.int 1)) p_c (od := subD) (rv := .d (.int ((w.length : Nat) - 1))) rfl
    have := src1i (cons1 sb) (by omega) (by omega)
    rw [show ((w.length : Int) - 1).toNat = w.length - 1 by omega] at this
    exact this
  have each : ∀ i ∈ List.range (w.length - 1), (Tg.nm 3).put (.int (0 + (i : Int))) [.p x, .d (.str w), s2, .un] = some [.p x, .d (.str w), s2, .d (.int (0 + (i : Int)))] ∧ mAndT (mTestB (mBin neD (mBin ixD (mVar 1) (mVar 3)) (mBin ixD (mVar 1) (mBin addD (mVar 3) (mC (.int 1)))))) (mTestB (mBin eqD (mBM "str" lowerD (mBin ixD (mVar 1) (mVar 3)) mNil) (mBM "str" lowerD (mBin ixD (mVar 1) (mBin addD (mVar 3) (mC (.int 1)))) mNil))) [.p x, .d (.str w), s2, .d (.int (0 + (i : Int)))] = .ok (spB w i) [.p x, .d (.str w), s2, .d (.int (0 + (i : Int)))] ∧ (spB w i = true → Hd (mVar 3) [.p x, .d (.str w), s2, .d (.int (0 + (i : Int)))] (.int (0 + (i : Int)))) := fun i hi => by
    have hi := List.mem_range.mp hi
    refine ⟨rfl, ?_, fun _ => rfl⟩
    rw [Int.zero_add]
    have x0 : mBin ixD (mVar 1) (mVar 3) [.p x, .d (.str w), s2, .d (.int (i : Int))] = .ok (.d (.str [w.getD i 0])) [.p x, .d (.str w), s2, .d (.int (i : Int))] := p_bin (x := .str w) (y := .int (i : Int)) rfl rfl (ix_str (by omega) (by omega))
    have x1 : mBin ixD (mVar 1) (mBin addD (mVar 3) (mC (.int 1))) [.p x, .d (.str w), s2, .d (.int (i : Int))] = .ok (.d (.str [w.getD (i + 1) 0])) [.p x, .d (.str w), s2, .d (.int (i : Int))] := p_bin (x := .str w) (y := .int ((i + 1 : Nat) : Int)) rfl (hd_d (p_bin (x := .int (i : Int)) (y := .int 1) rfl p_c rfl)) (ix_str (by omega) (by omega))
    have lo : ∀ {f : Ex} {c : Nat}, Al s c → f [.p x, .d (.str w), s2, .d (.int (i : Int))] = .ok (.d (.str [c])) [.p x, .d (.str w), s2, .d (.int (i : Int))] → (mBM "str" lowerD f mNil) [.p x, .d (.str w), s2, .d (.int (i : Int))] = .ok (.d (.str (FG.lt c).1)) [.p x, .d (.str w), s2, .d (.int (i : Int))] := fun {f c} hc hf => by
      refine p_bm (x := .str [c]) (xs := []) (hd_d hf) .nil rfl ?_
      show (if 1 ≤ 5592405 then some (RV.d (.str (lowL [c]))) else none) = _
      rw [if_pos (by decide), low_lt h.sm hc]
    have t1 := p_test (p_bin (hd_d x0) (hd_d x1) neD_lt)
    have t2 := p_test (p_bin (hd_d (lo (getD_al hw (by omega)) x0)) (hd_d (lo (getD_al hw (by omega)) x1)) eqD_lt)
    rw [u_andT, t1, u_bok, t2]
    unfold spB
    generalize w.getD i 0 = p
    generalize w.getD (i + 1) 0 = q
    by_cases e : p = q <;> simp [e]
  refine mlc_map (ρw := [.p x, .d (.str w), s2, .un]) (fun i : Nat => .int (0 + (i : Int))) (spB w) (fun i : Nat => .int (0 + (i : Int))) (fun i : Nat => [.p x, .d (.str w), s2, .d (.int (0 + (i : Int)))]) (List.range (w.length - 1)) it ?_ rfl rfl (fun _ => rfl) (by rw [List.length_range]; omega) each
  rcases h3 with rfl | ⟨_, rfl⟩ <;> rfl
theorem pick_own {n : Nat} {x a : D} {l : List D} {s3 : S} (h : TrayOk n x) (hn : n + 1 ≤ 2 ^ 60) (hl : 0 < l.length) (hl2 : l.length < 100000) : ∃ y x', mCall 2 m__law_pick (mCons (mVar 0) (mCons (mVar 2) (mNil))) [.p x, .d a, .o (.lst l), s3] = .ok (.d y) [.p x', .d a, .o (.lst l), s3] ∧ y ∈ l ∧ TrayOk (n + 1) x' := by
  obtain ⟨r, x', ρ, e, h0, h1, h2⟩ := bit_ok (m := l.length) h (by omega) (by omega) (by omega)
  obtain ⟨i, rfl⟩ : ∃ i : Nat, r = i := ⟨r.toNat, by omega⟩
  have hi : i < l.length := by omega
  refine ⟨l[i], x', ?_, List.getElem_mem hi, h2⟩
  have e' : WW.m__law_bit [.p x, .d (.int (l.length : Nat))] = .rt (.d (.int (i : Nat))) (.p x' :: ρ) := e
  have inner : WW.m__law_pick [.p x, .p (.lst l)] = .rt (.d l[i]) [.p x', .p (.lst l)] := by
    refine fn_eval (b := WW.b__law_pick) [.p x, .p (.lst l)] rfl (rv := .d l[i]) (ev_ret ?_) rfl
    have d := p_draw (ρ := [.p x, .p (.lst l)]) (i := 0) (s := .p x) (x' := x') (m := WW.m__law_bit) (r := mCons (mCB lenD (mCons (mVar 1) (mNil))) (mNil)) (xs := [.int (l.length : Nat)]) (n := 2) rfl (.inl rfl) (.one rfl) rfl e'
    rw [u_bin, u_hold, show mVar 1 [S.p x, .p (.lst l)] = .ok (.r 1) [.p x, .p (.lst l)] from rfl, u_bok, u_bok, u_hold, d, u_bok, u_bok]
    show MM.ret (ixD (.lst l) (.int (i : Int))) _ = _
    rw [show ixD (.lst l) (.int (i : Int)) = some (.d l[i]) from by
      show (L2.atI l (i : Int)).map RV.d = _
      rw [at_nat hi]
      rfl]
    rfl
  show mCall 2 WW.m__law_pick _ _ = _
  unfold mCall
  rw [show mCons (mVar 0) (mCons (mVar 2) mNil) [S.p x, .d a, .o (.lst l), s3] = .ok [.r 0, .r 2] [.p x, .d a, .o (.lst l), s3] from rfl, bind_ok]
  have ok : (decide ([HV.r 0, HV.r 2].length = 2) && MM.argsOk [S.p x, .d a, .o (.lst l), s3] [.r 0, .r 2]) = true := by simp [List.filterMap_cons]
  rw [if_pos ok, show List.map (argS [S.p x, .d a, .o (.lst l), s3]) [.r 0, .r 2] = [.p x, .p (.lst l)] from rfl, inner]
  cases s3 <;> rfl
end K04
set_option Elab.async false
set_option maxRecDepth 100000
set_option maxHeartbeats 4000000
namespace K04
open PySem MM FG WW
theorem spot_of {w : Lt} {i : Nat} (h : i ∈ spots w) : i + 1 < w.length ∧ inv (w.getD i 0) (w.getD (i + 1) 0) := by
  obtain ⟨h1, h2⟩ := List.mem_filter.mp h
  have h1 := List.mem_range.mp h1
  unfold spB at h2
  rw [Bool.and_eq_true] at h2
  exact ⟨by omega, of_decide_eq_true h2.1, of_decide_eq_true h2.2⟩
theorem cut_at {w : Lt} {i : Nat} (h : i + 1 < w.length) : w = w.take i ++ w.getD i 0 :: w.getD (i + 1) 0 :: w.drop (i + 2) := by
  have e1 : w.getD i 0 = w[i]'(by omega) := by simp [List.getD_eq_getElem?_getD, show i < w.length by omega]
  have e2 : w.getD (i + 1) 0 = w[i + 1] := by simp [List.getD_eq_getElem?_getD, h]
  rw [e1, e2, ← List.drop_eq_getElem_cons h, ← List.drop_eq_getElem_cons (show i < w.length by omega), List.take_append_drop]
theorem no_spots {w : Lt} (h : spots w = []) : ∀ i c d, w[i]? = some c → w[i + 1]? = some d → ¬ inv c d := fun i c d h1 h2 z => by
  have hl : i + 1 < w.length := (List.getElem?_eq_some_iff.mp h2).1
  have e1 : w.getD i 0 = c := by rw [List.getD_eq_getElem?_getD, h1]; rfl
  have e2 : w.getD (i + 1) 0 = d := by rw [List.getD_eq_getElem?_getD, h2]; rfl
  have m : i ∈ spots w := List.mem_filter.mpr ⟨List.mem_range.mpr (by omega), by
    unfold spB
    rw [e1, e2, decide_eq_true z.1, decide_eq_true z.2]
    rfl⟩
  rw [h] at m
  cases m
def clT : List S → R Bool := (mTestB (mBin neD (mVar 2) (mLst (mNil))))
def clB : Sm := (sSeq (sSet 3 (mCall 2 m__law_pick (mCons (mVar 0) (mCons (mVar 2) (mNil))))) (sSeq (sSet 1 (mBin addD (mSlice sliceD (mVar 1) (mNoPart) (mPart (mVar 3))) (mSlice sliceD (mVar 1) (mPart (mBin addD (mVar 3) (mC (.int 2)))) (mNoPart)))) (sSet 2 scE)))
theorem cl_eq : b__law_cleared = sSeq (sSet 2 scE) (sSeq (whileM clT clB 100000) (sRet (mVar 1))) := rfl
def clS (a : D × Lt × S) : List S := [.p a.1, .d (.str a.2.1), .o (spD a.2.1), a.2.2]
theorem clT_ok (a : D × Lt × S) : clT (clS a) = .ok (!(spots a.2.1).isEmpty) (clS a) := by
  have e : mBin neD (mVar 2) (mLst (mNil)) (clS a) = MM.ret (neD (spD a.2.1) (.lst [])) (clS a) := rfl
  have n : neD (spD a.2.1) (.lst []) = some (.d (.bl (!((spots a.2.1).map fun i : Nat => D.int (0 + (i : Int))).isEmpty))) := neD_nil fun x hx => by
    obtain ⟨i, _, rfl⟩ := List.mem_map.mp hx
    exact flat_int _
  rw [n, List.isEmpty_map] at e
  exact ev_test e
theorem cleared_draws {s w : Lt} (h : WSg s) (hw : AlT s w) (hl : w.length ≤ 9000) : Draws m__law_cleared [.str w] 10000 (fun y => y = .str (ex (nf (w.map FG.lt)))) := fun n x hx hn => by
  have hz := szl
  obtain ⟨⟨xe, we, s3⟩, e1, ⟨p1, p2, p3, p4, p5⟩, fin⟩ := whileM_do (t := clT) (m := clB) clS (fun a => a.2.1.length) (fun a => TrayOk (n + (w.length - a.2.1.length)) a.1 ∧ a.2.1.length ≤ w.length ∧ AlT s a.2.1 ∧ nf (a.2.1.map FG.lt) = nf (w.map FG.lt) ∧ (a.2.2 = .un ∨ ∃ d, a.2.2 = .d d)) (fun a => spots a.2.1 = []) (fun ⟨xa, wa, sa⟩ ⟨q1, q2, q3, q4, q5⟩ => by
    dsimp only at q1 q2 q3 q4 q5
    by_cases c : spots wa = []
    · refine .inr ⟨?_, c⟩
      rw [clT_ok, c]
      rfl
    · refine .inl ⟨?_, ?_⟩
      · rw [clT_ok]
        cases q : spots wa with
        | nil => exact absurd q c
        | cons _ _ => rfl
      · have lp : 0 < ((spots wa).map fun i : Nat => D.int (0 + (i : Int))).length := by
          rw [List.length_map]
          exact List.length_pos_iff.mpr c
        have lq : ((spots wa).map fun i : Nat => D.int (0 + (i : Int))).length < 100000 := by
          rw [List.length_map]
          have := List.length_filter_le (spB wa) (List.range (wa.length - 1))
          rw [List.length_range] at this
          unfold spots
          omega
        obtain ⟨y, x', e, my, k⟩ := pick_own (a := .str wa) (s3 := sa) q1 (by omega) lp lq
        obtain ⟨i, hi, rfl⟩ := List.mem_map.mp my
        rw [Int.zero_add] at e
        obtain ⟨i1, i2⟩ := spot_of hi
        have ce := cut_at i1
        have nl : (wa.take i ++ wa.drop (i + 2)).length + 2 = wa.length := by
          rw [List.length_append, List.length_take, List.length_drop]
          omega
        have na : AlT s (wa.take i ++ wa.drop (i + 2)) := fun z hz => by
          rcases List.mem_append.mp hz with hz | hz
          · exact q3 z (List.mem_of_mem_take hz)
          · exact q3 z (List.mem_of_mem_drop hz)
        have nn : nf ((wa.take i ++ wa.drop (i + 2)).map FG.lt) = nf (w.map FG.lt) := by
          rw [← q4]
          conv => rhs; rw [ce]
          exact (nf_cancel i2).symm
        refine ⟨(x', wa.take i ++ wa.drop (i + 2), .d (.int (i : Int))), ?_, ⟨k.mono (by dsimp only; omega), by dsimp only; omega, na, nn, .inr ⟨_, rfl⟩⟩, by dsimp only; omega⟩
        have s1 : sSet 3 (mCall 2 m__law_pick (mCons (mVar 0) (mCons (mVar 2) (mNil)))) (clS (xa, wa, sa)) = .nx [.p x', .d (.str wa), .o (spD wa), .d (.int (i : Int))] := by
          rw [u_set]
          show Out.of (mCall 2 m__law_pick (mCons (mVar 0) (mCons (mVar 2) (mNil))) [.p xa, .d (.str wa), .o (.lst ((spots wa).map fun i : Nat => .int (0 + (i : Int)))), sa]) _ = _
          rw [e]
          rcases q5 with rfl | ⟨_, rfl⟩ <;> rfl
        have s2 : sSet 1 (mBin addD (mSlice sliceD (mVar 1) (mNoPart) (mPart (mVar 3))) (mSlice sliceD (mVar 1) (mPart (mBin addD (mVar 3) (mC (.int 2)))) (mNoPart))) [.p x', .d (.str wa), .o (spD wa), .d (.int (i : Int))] = .nx [.p x', .d (.str (wa.take i ++ wa.drop (i + 2))), .o (spD wa), .d (.int (i : Int))] := by
          have l1 := p_slice (ρ := [.p x', .d (.str wa), .o (spD wa), .d (.int (i : Int))]) (a := mVar 1) (x := .str wa) (l := mNoPart) (u := mPart (mVar 3)) rfl rfl (p_part rfl) (slice_h (by omega) (by omega))
          have l2 := p_slice (ρ := [.p x', .d (.str wa), .o (spD wa), .d (.int (i : Int))]) (a := mVar 1) (x := .str wa) (l := mPart (mBin addD (mVar 3) (mC (.int 2)))) (u := mNoPart) rfl (p_part (p_bin (x := .int (i : Int)) (y := .int 2) (rv := .d (.int ((i + 2 : Nat) : Int))) rfl p_c rfl)) rfl (slice_l (by omega) (by omega))
          refine q_set (p_bin (hd_d l1) (hd_d l2) (rv := .d (.str (wa.take i ++ wa.drop (i + 2)))) ?_) rfl
          show (if (wa.take i).length + (wa.drop (i + 2)).length ≤ sizeLine then some (RV.d (.str (wa.take i ++ wa.drop (i + 2)))) else none) = _
          rw [if_pos (by rw [List.length_take, List.length_drop]; omega)]
        exact q_seq s1 (q_seq s2 (q_set (sc_ok h na (by omega) (.inr ⟨_, rfl⟩)) rfl))) 100000 (x, w, .un) ⟨hx.mono (by omega), Nat.le_refl _, hw, rfl, .inl rfl⟩ (by dsimp only; omega)
  dsimp only at p1 p2 p3 p4 p5 fin
  have es : we = ex (nf (w.map FG.lt)) := by rw [← p4, ex_self h.sm p3 (no_spots fin)]
  refine ⟨.str we, xe, [.d (.str we), .o (spD we), s3], ?_, p1.mono (by omega), by rw [es]⟩
  refine fn_eval (b := b__law_cleared) [.p x, .d (.str w), .un, .un] rfl (rv := .d (.str we)) (ρ1 := clS (xe, we, s3)) ?_ rfl
  rw [cl_eq]
  exact q_seq (q_set (sc_ok h hw (by omega) (.inl rfl)) rfl) (q_seq e1 (ev_ret rfl))
/-! ### neighbours put in -/
def pdB : Sm := (sSeq (sPar [4, 5] [mCall 2 m__law_bit (mCons (mVar 0) (mCons (mBin addD (mCB lenD (mCons (mVar 2) (mNil))) (mC (.int 1))) (mNil))), mCall 2 m__law_pick (mCons (mVar 0) (mCons (mVar 1) (mNil)))]) (sSeq (sSet 6 (mIf (mTestB (mBin eqD (mCall 2 m__law_bit (mCons (mVar 0) (mCons (mC (.int 2)) (mNil)))) (mC (.int 0)))) (mBin addD (mVar 5) (mBM "str" upperD (mVar 5) mNil)) (mBin addD (mBM "str" upperD (mVar 5) mNil) (mVar 5)))) (sSet 2 (mBin addD (mBin addD (mSlice sliceD (mVar 2) (mNoPart) (mPart (mVar 4))) (mVar 6)) (mSlice sliceD (mVar 2) (mPart (mVar 4)) (mNoPart))))))
theorem addS {a b : Lt} (h : a.length + b.length ≤ 100000) : addD (.str a) (.str b) = some (.d (.str (a ++ b))) := by
  have hz := szl
  show (if a.length + b.length ≤ sizeLine then some (RV.d (.str (a ++ b))) else none) = _
  rw [if_pos (by omega)]
theorem padded_draws {s w : Lt} (h : WSg s) (hw : AlT s w) (hl : w.length ≤ 1000) : Draws m__law_padded [.str s, .str w] 1000 (fun y => ∃ v, y = .str v ∧ AlT s v ∧ v.length ≤ w.length + 8 ∧ nf (v.map FG.lt) = nf (w.map FG.lt)) := fun n x hx hn => by
  have hz := szl
  obtain ⟨y1, x1, e1, k1, cnt, rfl, a1, a2⟩ := ex_draw (n := 2) (t := [.d (.str s), .d (.str w), .un, .un, .un, .un]) (r := mCons (mC (.int 4)) (mNil)) (bit_draws (m := 4) (by decide) (by decide)) hx (by omega) (fun _ => .one p_c) rfl
  obtain ⟨c, rfl⟩ : ∃ c : Nat, cnt = c := ⟨cnt.toNat, by omega⟩
  have it : mSrc rng1 (mCons (mCall 2 m__law_bit (mCons (mVar 0) (mCons (mC (.int 4)) (mNil)))) (mNil)) [.p x, .d (.str s), .d (.str w), .un, .un, .un, .un] = .ok (rngD 0 c) [.p x1, .d (.str s), .d (.str w), .un, .un, .un, .un] := by
    have := src1i (j := (c : Int)) (cons1 e1) (by omega) (by omega)
    simpa using this
  let Fr : S → Prop := fun s => s = .un ∨ ∃ d, s = .d d
  let I : Nat → List S → Prop := fun k ρ => ∃ (z : D) (v : Lt) (s3 s4 s5 s6 : S), ρ = [.p z, .d (.str s), .d (.str v), s3, s4, s5, s6] ∧ TrayOk (n + 1 + 3 * k) z ∧ AlT s v ∧ v.length ≤ w.length + 2 * k ∧ nf (v.map FG.lt) = nf (w.map FG.lt) ∧ Fr s3 ∧ Fr s4 ∧ Fr s5 ∧ Fr s6
  obtain ⟨ρe, l1, z, v, s3, s4, s5, s6, rfl, l2, l3, l4, l5, _, _, _, _⟩ := loopM_inv (body := fun x ρ => match (Tg.nm 3).put x ρ with
    | some ρ2 => pdB ρ2
    | none => .bad) I (rngD 0 c) 0 [.p x1, .d (.str s), .d (.str w), .un, .un, .un, .un] ⟨x1, w, .un, .un, .un, .un, rfl, k1, hw, Nat.le_refl _, rfl, .inl rfl, .inl rfl, .inl rfl, .inl rfl⟩ (fun i ρ d hd hI => by
      obtain ⟨z, v, s3, s4, s5, s6, rfl, q1, q2, q3, q4, f3, f4, f5, f6⟩ := hI
      rw [Nat.zero_add] at *
      have hic := (rngD_get hd).1
      have pt : (Tg.nm 3).put d [.p z, .d (.str s), .d (.str v), s3, s4, s5, s6] = some [.p z, .d (.str s), .d (.str v), .d d, s4, s5, s6] := by
        rcases f3 with rfl | ⟨_, rfl⟩ <;> simp
      obtain ⟨y2, x2, e2, k2, at_, rfl, b1, b2⟩ := ex_draw (n := 2) (t := [.d (.str s), .d (.str v), .d d, s4, s5, s6]) (r := mCons (mBin addD (mCB lenD (mCons (mVar 2) (mNil))) (mC (.int 1))) (mNil)) (bit_draws (m := (v.length : Int) + 1) (by omega) (Nat.lt_of_lt_of_le (log2_lt (k := 11) (by omega) (by decide)) (by decide))) q1 (by omega) (fun _ => .one (hd_d (p_bin (x := .int v.length) (y := .int 1) (hd_d (p_cb (xs := [.str v]) (.one rfl) (lens (by omega)))) p_c rfl))) rfl
      obtain ⟨i0, rfl⟩ : ∃ i0 : Nat, at_ = i0 := ⟨at_.toNat, by omega⟩
      obtain ⟨y3, x3, e3, k3, ch, hc, rfl⟩ := ex_draw (n := 2) (t := [.d (.str s), .d (.str v), .d d, s4, s5, s6]) (r := mCons (mVar 1) (mNil)) (pick_str h.pos (by have := h.len; omega)) k2 (by omega) (fun _ => .one rfl) rfl
      obtain ⟨y4, x4, e4, k4, sd, rfl, c1, c2⟩ := ex_draw (n := 2) (t := [.d (.str s), .d (.str v), .d d, .d (.int (i0 : Int)), .d (.str [ch]), s6]) (r := mCons (mC (.int 2)) (mNil)) (bit_draws (m := 2) (by decide) (by decide)) k3 (by omega) (fun _ => .one p_c) rfl
      have hch := h.sm ch hc
      have s1 : sPar [4, 5] [mCall 2 m__law_bit (mCons (mVar 0) (mCons (mBin addD (mCB lenD (mCons (mVar 2) (mNil))) (mC (.int 1))) (mNil))), mCall 2 m__law_pick (mCons (mVar 0) (mCons (mVar 1) (mNil)))] [.p z, .d (.str s), .d (.str v), .d d, s4, s5, s6] = .nx [.p x3, .d (.str s), .d (.str v), .d d, .d (.int (i0 : Int)), .d (.str [ch]), s6] := by
        rw [u_par, u_row1, show mCall 2 m__law_bit (mCons (mVar 0) (mCons (mBin addD (mCB lenD (mCons (mVar 2) (mNil))) (mC (.int 1))) (mNil))) [.p z, .d (.str s), .d (.str v), .d d, s4, s5, s6] = _ from e2, u_bok, u_row1, show mCall 2 m__law_pick (mCons (mVar 0) (mCons (mVar 1) (mNil))) [.p x2, .d (.str s), .d (.str v), .d d, s4, s5, s6] = _ from e3]
        rcases f4 with rfl | ⟨_, rfl⟩ <;> rcases f5 with rfl | ⟨_, rfl⟩ <;> rfl
      have up : ∀ {x : D} {s6 : S}, (mBM "str" upperD (mVar 5) mNil) [.p x, .d (.str s), .d (.str v), .d d, .d (.int (i0 : Int)), .d (.str [ch]), s6] = .ok (.d (.str [ch - 32])) [.p x, .d (.str s), .d (.str v), .d d, .d (.int (i0 : Int)), .d (.str [ch]), s6] := fun {x s6} => by
        refine p_bm (x := .str [ch]) (xs := []) rfl .nil rfl ?_
        show (if 1 ≤ 5592405 then some (RV.d (.str (upL [ch]))) else none) = _
        rw [if_pos (by decide), ((chr_facts ch (by omega) (by omega)).1 hch.1).2]
      have s2 : ∃ a b, (inv a b ∧ Al s a ∧ Al s b) ∧ sSet 6 (mIf (mTestB (mBin eqD (mCall 2 m__law_bit (mCons (mVar 0) (mCons (mC (.int 2)) (mNil)))) (mC (.int 0)))) (mBin addD (mVar 5) (mBM "str" upperD (mVar 5) mNil)) (mBin addD (mBM "str" upperD (mVar 5) mNil) (mVar 5))) [.p x3, .d (.str s), .d (.str v), .d d, .d (.int (i0 : Int)), .d (.str [ch]), s6] = .nx [.p x4, .d (.str s), .d (.str v), .d d, .d (.int (i0 : Int)), .d (.str [ch]), .d (.str [a, b])] := by
        have l1 : FG.lt ch = ([ch], 1) := by unfold FG.lt; rw [if_pos hch.1]
        have l2 : FG.lt (ch - 32) = ([ch], -1) := by
          unfold FG.lt
          rw [if_neg (by omega), show ch - 32 + 32 = ch by omega]
        have A1 : Al s ch := .inl ⟨hch.1, hc⟩
        have A2 : Al s (ch - 32) := .inr ⟨by omega, by rwa [show ch - 32 + 32 = ch by omega]⟩
        have t := ev_test (ev_bin e4 (b := mC (.int 0)) rfl (eqD_int (i := sd) (j := 0)))
        have v5 : Hd (mVar 5) [.p x4, .d (.str s), .d (.str v), .d d, .d (.int (i0 : Int)), .d (.str [ch]), s6] (.str [ch]) := rfl
        by_cases c0 : sd = 0
        · refine ⟨ch, ch - 32, ⟨⟨by omega, by rw [l1, l2]⟩, A1, A2⟩, ?_⟩
          rw [u_set, u_if, t, decide_eq_true c0, u_bok, if_pos rfl, p_bin v5 (hd_d up) (addS (by simp))]
          rcases f6 with rfl | ⟨_, rfl⟩ <;> rfl
        · refine ⟨ch - 32, ch, ⟨⟨by omega, by rw [l1, l2]⟩, A2, A1⟩, ?_⟩
          rw [u_set, u_if, t, decide_eq_false c0, u_bok, if_neg Bool.false_ne_true, p_bin (hd_d up) v5 (addS (by simp))]
          rcases f6 with rfl | ⟨_, rfl⟩ <;> rfl
      obtain ⟨a, b, ⟨iv, A1, A2⟩, s2⟩ := s2
      have nl : (v.take i0 ++ a :: b :: v.drop i0).length = v.length + 2 := by
        rw [List.length_append, List.length_cons, List.length_cons, List.length_take, List.length_drop]
        omega
      have s3' : sSet 2 (mBin addD (mBin addD (mSlice sliceD (mVar 2) (mNoPart) (mPart (mVar 4))) (mVar 6)) (mSlice sliceD (mVar 2) (mPart (mVar 4)) (mNoPart))) [.p x4, .d (.str s), .d (.str v), .d d, .d (.int (i0 : Int)), .d (.str [ch]), .d (.str [a, b])] = .nx [.p x4, .d (.str s), .d (.str (v.take i0 ++ a :: b :: v.drop i0)), .d d, .d (.int (i0 : Int)), .d (.str [ch]), .d (.str [a, b])] := by
        have l1 := p_slice (ρ := [.p x4, .d (.str s), .d (.str v), .d d, .d (.int (i0 : Int)), .d (.str [ch]), .d (.str [a, b])]) (a := mVar 2) (x := .str v) (l := mNoPart) (u := mPart (mVar 4)) rfl rfl (p_part rfl) (slice_h (j := i0) (by omega) (by omega))
        have l2 := p_slice (ρ := [.p x4, .d (.str s), .d (.str v), .d d, .d (.int (i0 : Int)), .d (.str [ch]), .d (.str [a, b])]) (a := mVar 2) (x := .str v) (l := mPart (mVar 4)) (u := mNoPart) rfl (p_part rfl) rfl (slice_l (i := i0) (by omega) (by omega))
        have hle := List.length_take_le i0 v
        have hde : (v.drop i0).length ≤ v.length := by rw [List.length_drop]; omega
        have b1 := p_bin (hd_d l1) (b := mVar 6) (y := .str [a, b]) rfl (addS (by rw [List.length_cons, List.length_cons, List.length_nil]; omega))
        have b2 := p_bin (hd_d b1) (hd_d l2) (addS (by rw [List.length_append, List.length_cons, List.length_cons, List.length_nil]; omega))
        refine q_set b2 ?_
        rw [List.append_assoc]
        rfl
      refine ⟨_, .inl ?_, x4, v.take i0 ++ a :: b :: v.drop i0, .d d, .d (.int (i0 : Int)), .d (.str [ch]), .d (.str [a, b]), rfl, k4.mono (by omega), fun z hz => ?_, by omega, ?_, .inr ⟨_, rfl⟩, .inr ⟨_, rfl⟩, .inr ⟨_, rfl⟩, .inr ⟨_, rfl⟩⟩
      · rw [pt]
        exact q_seq s1 (q_seq s2 s3')
      · rcases List.mem_append.mp hz with hz | hz
        · exact q2 z (List.mem_of_mem_take hz)
        · rcases List.mem_cons.mp hz with rfl | hz
          · exact A1
          · rcases List.mem_cons.mp hz with rfl | hz
            · exact A2
            · exact q2 z (List.mem_of_mem_drop hz)
      · rw [nf_cancel iv, List.take_append_drop, q4])
  rw [rngD_length, Nat.zero_add] at l2 l4
  refine ⟨.str v, z, [.d (.str s), .d (.str v), s3, s4, s5, s6], ?_, l2.mono (by omega), v, rfl, l3, by omega, l5⟩
  exact fn_eval (b := b__law_padded) [.p x, .d (.str s), .d (.str w), .un, .un, .un, .un] rfl (rv := .d (.str v)) (q_seq (for_of it l1) (ev_ret rfl)) rfl
end K04
set_option Elab.async false
set_option maxRecDepth 100000
set_option maxHeartbeats 4000000
namespace K04
open PySem MM FG WW
section
variable {ρ ρ1 ρ2 : List S} {t u : List S → R Bool} {q : Bool} {a : Ex} {k : Str} {own : Own} {m : Fn} {es : List (Str × D)} {rv : RV}
theorem or_s (h : t ρ = .ok false ρ1) (k : u ρ1 = .ok q ρ2) : mOrT t u ρ = .ok q ρ2 := by
  rw [u_orT, h]
  exact k
theorem p_propF (h : mForce a ρ = .ok (.ins k es) ρ1) (ho : ownAt own k = some m) (e : Ans m [.ins k es] rv) : mPropO own a ρ = .ok rv ρ1 := by
  obtain ⟨ρf, e⟩ := e
  unfold mPropO
  rw [h, bind_ok]
  dsimp only
  rw [ho]
  dsimp only
  rw [show m [S.d (.ins k es)] = .rt rv ρf from e]
end
/-- behind the draws of line and short -/
def Rt (x : D) (s w : Lt) (a : List Rn) (s3 s5 s6 s7 s8 : S) : List S := [.p x, .d (.str s), .d (.str w), s3, .d (.str (ex a)), s5, s6, s7, s8]
structure Tx (s w : Lt) (a : List Rn) : Prop where
  sg : WSg s
  al : AlT s w
  len : w.length ≤ 14
  nf : nf (w.map FG.lt) = a
section
variable {s w : Lt} {a : List Rn} {x : D} {s5 s6 s7 s8 : S}
theorem Tx.red (h : Tx s w a) : Red a := h.nf ▸ nf_red
theorem Tx.rns (h : Tx s w a) : RnS s a := h.nf ▸ nf_rns (lt_mem h.al)
theorem Tx.low (h : Tx s w a) : LowR a := h.nf ▸ (lt_low h.sg h.al).nf
theorem Tx.alen (h : Tx s w a) : a.length ≤ 14 := by
  rw [← h.nf]
  refine Nat.le_trans nf_len ?_
  rw [List.length_map]
  exact h.len
/-- a reduced text has no more letters -/
theorem act_sz : ∀ (r : List Rn) (x : Rn), sz (ins x r) ≤ x.2.natAbs + sz r := fun r x => by
  unfold ins
  split
  · omega
  · cases r with
    | nil => simp [sz]
    | cons y t =>
      dsimp only
      split
      · split
        · simp [sz]
          omega
        · simp [sz]
          omega
      · simp [sz]
theorem nf_sz : ∀ w : Lt, sz (FG.nf (w.map FG.lt)) ≤ w.length
  | [] => by simp [sz, FG.nf, act]
  | c :: w => by
    have ih := nf_sz w
    have h1 : (FG.lt c).2.natAbs = 1 := by
      unfold FG.lt
      split <;> rfl
    have := act_sz (FG.nf (w.map FG.lt)) (FG.lt c)
    show sz (ins (FG.lt c) (FG.nf (w.map FG.lt))) ≤ _
    rw [List.length_cons]
    omega
theorem ex_le {s v : Lt} (hs : WSg s) (hv : AlT s v) : (ex (FG.nf (v.map FG.lt))).length ≤ v.length := by
  rw [sz_len (nf_rns (lt_mem hv))]
  exact nf_sz v
theorem Tx.sz (h : Tx s w a) : WW.sz a ≤ 14 := by
  rw [← h.nf]
  exact Nat.le_trans (nf_sz w) h.len
theorem Tx.exl (h : Tx s w a) : (ex a).length ≤ 14 := by
  rw [sz_len h.rns]
  exact h.sz
theorem Tx.exal (h : Tx s w a) : AlT s (ex a) := ex_al h.sg.sm h.rns
/-- the word of a drawn text -/
theorem vOf {s v : Lt} {f g : Ex} {R : List S} (hs : WSg s) (hv : AlT s v) (hl : v.length ≤ 100) (h1 : Hd f R (.str s)) (h2 : Hd g R (.str v)) : V (mClsM 3 "Word" m_Word_of (mC (.cls "Word")) (mCons f (mCons g (mNil)))) R s (FG.nf (v.map FG.lt)) 100 := by
  have l1 : (FG.nf (v.map FG.lt)).length ≤ 100 := Nat.le_trans nf_len (by rw [List.length_map]; exact hl)
  exact ⟨hd_f (p_clsm p_c (.two h1 h2) rfl (of_ok hs hv (by omega) (by omega))), nf_red, (lt_low hs hv).nf, l1⟩
theorem b1 (h : Tx s w a) : ∃ s3', mTestB (mBin neD (mPropO [("Word", m_Word_runs)] (mVar 3)) (mCall 1 m__law_row_of (mCons (mVar 2) (mNil)))) (Rt x s w a (.o (wd s a)) s5 s6 s7 s8) = .ok false (Rt x s w a s3' s5 s6 s7 s8) ∧ s3' = .d (wd s a) := by
  refine ⟨_, ?_, rfl⟩
  have l0 := h.len
  have e1 : mPropO [("Word", m_Word_runs)] (mVar 3) (Rt x s w a (.o (wd s a)) s5 s6 s7 s8) = .ok (.d (.tup (rs a))) (Rt x s w a (.d (wd s a)) s5 s6 s7 s8) := p_propF (k := "Word") rfl rfl runs_ok
  have r := rowof_ok h.sg h.al (by omega)
  rw [h.nf] at r
  have e2 : mCall 1 m__law_row_of (mCons (mVar 2) (mNil)) (Rt x s w a (.d (wd s a)) s5 s6 s7 s8) = .ok (.d (.tup (rs a))) (Rt x s w a (.d (wd s a)) s5 s6 s7 s8) := p_call (.one rfl) rfl r
  have n := neD_rs h.low h.low
  rw [decide_eq_true rfl] at n
  exact ev_test (ev_bin e1 e2 n)
theorem b2 (h : Tx s w a) : mTestB (mBin neD (mMethO 1 "shortest" [("Word", m_Word_shortest)] (mVar 3) mNil) (mVar 4)) (Rt x s w a (.d (wd s a)) s5 s6 s7 s8) = .ok false (Rt x s w a (.d (wd s a)) s5 s6 s7 s8) := by
  have l1 := h.alen
  have l2 := h.sz
  exact p_test (p_bin (hd_d (p_meth (k := "Word") rfl rfl rfl .nil rfl (shortest_ok h.sg.sm h.rns (by omega) (by omega)))) rfl neD_same)
theorem b3 (h : Tx s w a) : mTestB (mBin neD (mPropO [("Word", m_Word_size)] (mVar 3)) (mCB lenD (mCons (mVar 4) (mNil)))) (Rt x s w a (.d (wd s a)) s5 s6 s7 s8) = .ok false (Rt x s w a (.d (wd s a)) s5 s6 s7 s8) := by
  have l1 := h.alen
  have l2 := h.exl
  refine p_test (p_bin (hd_d (p_prop (k := "Word") rfl rfl (size_ok (by omega)))) (hd_d (p_cb (xs := [.str (ex a)]) (.one rfl) (lens (by omega)))) ?_)
  rw [neD_int, sz_len h.rns, decide_eq_true rfl]
  rfl
theorem b5 (h : Tx s w a) : mOrT (mTestB (mNeO ["Word"] [("Word", m_Word___eq__)] (mClsM 3 "Word" m_Word_of (mC (.cls "Word")) (mCons (mVar 1) (mCons (mVar 4) (mNil)))) (mVar 3))) (mTestB (mNeO ["Word"] [("Word", m_Word___eq__)] (mMake 4 "Word" m_Word___init__ [.bl true] (mCons (mVar 1) (mCons (mCall 1 m__law_row_of (mCons (mVar 4) (mNil))) (mNil)))) (mVar 3))) (Rt x s w a (.d (wd s a)) s5 s6 s7 s8) = .ok false (Rt x s w a (.d (wd s a)) s5 s6 s7 s8) := by
  have l1 := h.alen
  have l2 := h.exl
  have l3 := h.sz
  have v3 : V (mVar 3) (Rt x s w a (.d (wd s a)) s5 s6 s7 s8) s a 14 := ⟨rfl, h.red, h.low, l1⟩
  have e : FG.nf ((ex a).map FG.lt) = a := nf_ex h.sg.sm h.rns h.red
  have o := vOf (f := mVar 1) (g := mVar 4) (R := Rt x s w a (.d (wd s a)) s5 s6 s7 s8) h.sg h.exal (by omega) rfl rfl
  rw [e] at o
  have r := rowof_ok h.sg h.exal (by omega)
  rw [e] at r
  have ea : FG.nf a = a := nf_self h.red
  have big : ∀ r ∈ a, r.2.natAbs ≤ 14 := fun r hr => by
    refine Nat.le_trans ?_ l3
    have : ∀ (b : List Rn), r ∈ b → r.2.natAbs ≤ WW.sz b := fun b hb => by
      induction b with
      | nil => cases hb
      | cons y t ih =>
        rcases List.mem_cons.mp hb with rfl | hb
        · simp [WW.sz]
        · have := ih hb
          simp [WW.sz] at *
          omega
    exact this a hr
  have mk := init_ck h.sg.lt (w := a) (by omega) h.low (fun r hr => by
    obtain ⟨c, h1, h2⟩ := h.rns r hr
    exact ⟨c, h2, h1, Nat.lt_of_le_of_lt (big r hr) (by decide +kernel)⟩) (by rw [ea]; omega)
  rw [ea] at mk
  have w2 : V (mMake 4 "Word" m_Word___init__ [.bl true] (mCons (mVar 1) (mCons (mCall 1 m__law_row_of (mCons (mVar 4) (mNil))) (mNil)))) (Rt x s w a (.d (wd s a)) s5 s6 s7 s8) s a 14 := ⟨hd_f (p_make (.two rfl (hd_d (p_call (xs := [.str (ex a)]) (.one rfl) rfl r))) rfl mk), h.red, h.low, l1⟩
  exact p_orF (vNe o v3 rfl) (vNe w2 v3 rfl)
/-- the near texts' turn -/
def nrB : Sm := (sIf (mTestB (mBin neD (mEqO ["Word"] [("Word", m_Word___eq__)] (mClsM 3 "Word" m_Word_of (mC (.cls "Word")) (mCons (mVar 1) (mCons (mVar 8) (mNil)))) (mVar 3)) (mBin eqD (mCall 2 m__law_cleared (mCons (mVar 0) (mCons (mVar 8) (mNil)))) (mVar 4)))) (sRet (mC (.bl false))) (sNext))
theorem near_ok (h : Tx s w a) {v : Lt} (hv : AlT s v) (hl : v.length ≤ 100) {n : Nat} (hx : TrayOk n x) (hn : n + 10000 ≤ 2 ^ 60) : ∃ x', nrB (Rt x s w a (.d (wd s a)) s5 s6 s7 (.d (.str v))) = .nx (Rt x' s w a (.d (wd s a)) s5 s6 s7 (.d (.str v))) ∧ TrayOk (n + 10000) x' := by
  obtain ⟨y, x', e, k, rfl⟩ := ex_draw (n := 2) (t := (Rt x s w a (.d (wd s a)) s5 s6 s7 (.d (.str v))).tail) (r := mCons (mVar 8) (mNil)) (cleared_draws h.sg hv (by omega)) hx hn (fun _ => .one rfl) rfl
  refine ⟨x', ?_, k⟩
  have v3 : V (mVar 3) (Rt x s w a (.d (wd s a)) s5 s6 s7 (.d (.str v))) s a 14 := ⟨rfl, h.red, h.low, h.alen⟩
  have o := vOf (f := mVar 1) (g := mVar 8) (R := Rt x s w a (.d (wd s a)) s5 s6 s7 (.d (.str v))) h.sg hv hl rfl rfl
  have e1 := vEqB o v3
  have e2 : mBin eqD (mCall 2 m__law_cleared (mCons (mVar 0) (mCons (mVar 8) (mNil)))) (mVar 4) (Rt x s w a (.d (wd s a)) s5 s6 s7 (.d (.str v))) = .ok (.d (.bl (decide (ex (FG.nf (v.map FG.lt)) = ex a)))) (Rt x' s w a (.d (wd s a)) s5 s6 s7 (.d (.str v))) := ev_bin e (y := .str (ex a)) rfl eqD_lt
  have eq : decide (ex (FG.nf (v.map FG.lt)) = ex a) = decide (FG.nf (v.map FG.lt) = a) := decide_eq_decide.mpr ⟨fun z => ex_inj h.sg.sm (nf_rns (lt_mem hv)) h.rns nf_red h.red z, fun z => by rw [z]⟩
  have t := ev_test (ev_bin e1 e2 neD_bl)
  rw [eq] at t
  have bb : (!(decide (FG.nf (v.map FG.lt) = a) == decide (FG.nf (v.map FG.lt) = a))) = false := by simp
  rw [bb] at t
  unfold nrB
  rw [ev_if t]
  rfl
end
end K04
set_option Elab.async false
set_option maxRecDepth 100000
set_option maxHeartbeats 4000000
namespace K04
open PySem MM FG WW
theorem right_draws : Draws m__law_right [] 200000 (fun y => y = .bl true) := fun n x hx hn => by
  have hz := szl
  obtain ⟨y1, x1, e1, k1, hy1⟩ := ex_draw (n := 1) (xs := []) (t := [.un, .un, .un, .un, .un, .un, .un, .un]) (r := mNil) signs_draws hx (by omega) (fun _ => .nil) rfl
  obtain ⟨s, rfl, sg⟩ := sg_all hy1
  obtain ⟨y2, x2, e2, k2, w, rfl, hw, hl⟩ := ex_draw (n := 3) (t := [.d (.str s), .un, .un, .un, .un, .un, .un, .un]) (r := mCons (mVar 1) (mCons (mC (.int 14)) (mNil))) (mixed_draws (m := 14) sg (by decide) (by decide)) k1 (by omega) (fun _ => .two rfl p_c) rfl
  obtain ⟨a, ea⟩ : ∃ a, nf (w.map FG.lt) = a := ⟨_, rfl⟩
  have hT : Tx s w a := ⟨sg, hw, hl, ea⟩
  obtain ⟨y3, x3, e3, k3, e3y⟩ := ex_draw (n := 2) (t := [.d (.str s), .d (.str w), .un, .un, .un, .un, .un, .un]) (r := mCons (mVar 2) (mNil)) (cleared_draws sg hw (by omega)) k2 (by omega) (fun _ => .one rfl) rfl
  rw [ea] at e3y
  subst e3y
  have s1 : sSet 1 (mCall 1 m__law_signs (mCons (mVar 0) (mNil))) [.p x, .un, .un, .un, .un, .un, .un, .un, .un] = .nx [.p x1, .d (.str s), .un, .un, .un, .un, .un, .un, .un] := by
    rw [u_set, e1]
    rfl
  have s2 : sSet 2 (mCall 3 m__law_mixed (mCons (mVar 0) (mCons (mVar 1) (mCons (mC (.int 14)) (mNil))))) [.p x1, .d (.str s), .un, .un, .un, .un, .un, .un, .un] = .nx [.p x2, .d (.str s), .d (.str w), .un, .un, .un, .un, .un, .un] := by
    rw [u_set, e2]
    rfl
  have l1 := hT.alen
  have of0 := of_ok sg hw (by omega) (by rw [ea]; omega)
  rw [ea] at of0
  have s3 : sPar [3, 4] [mClsM 3 "Word" m_Word_of (mC (.cls "Word")) (mCons (mVar 1) (mCons (mVar 2) (mNil))), mCall 2 m__law_cleared (mCons (mVar 0) (mCons (mVar 2) (mNil)))] [.p x2, .d (.str s), .d (.str w), .un, .un, .un, .un, .un, .un] = .nx (Rt x3 s w a (.o (wd s a)) .un .un .un .un) := by
    have c := p_clsm (n := 3) (k := "Word") (a := mC (.cls "Word")) (r := mCons (mVar 1) (mCons (mVar 2) (mNil))) (ρ := [.p x2, .d (.str s), .d (.str w), .un, .un, .un, .un, .un, .un]) p_c (.two rfl rfl) rfl of0
    rw [u_par, u_row1, c, u_bok, u_row1, e3]
    rfl
  obtain ⟨s3', t1, rfl⟩ := b1 (x := x3) (s5 := .un) (s6 := .un) (s7 := .un) (s8 := .un) hT
  obtain ⟨y4, x4, e4, k4, e4y⟩ := ex_draw (n := 2) (t := (Rt x3 s w a (.d (wd s a)) .un .un .un .un).tail) (r := mCons (mVar 2) (mNil)) (cleared_draws sg hw (by omega)) k3 (by omega) (fun _ => .one rfl) rfl
  rw [ea] at e4y
  subst e4y
  have t4 : mTestB (mBin neD (mCall 2 m__law_cleared (mCons (mVar 0) (mCons (mVar 2) (mNil)))) (mVar 4)) (Rt x3 s w a (.d (wd s a)) .un .un .un .un) = .ok false (Rt x4 s w a (.d (wd s a)) .un .un .un .un) := ev_test (ev_bin e4 (y := .str (ex a)) rfl neD_same)
  obtain ⟨y5, x5, e5, k5, v5, rfl, a5, l5, hv5⟩ := ex_draw (n := 3) (t := (Rt x4 s w a (.d (wd s a)) .un .un .un .un).tail) (r := mCons (mVar 1) (mCons (mVar 2) (mNil))) (padded_draws sg hw (by omega)) k4 (by omega) (fun _ => .two rfl rfl) rfl
  have s5 : sSet 5 (mCall 3 m__law_padded (mCons (mVar 0) (mCons (mVar 1) (mCons (mVar 2) (mNil))))) (Rt x4 s w a (.d (wd s a)) .un .un .un .un) = .nx (Rt x5 s w a (.d (wd s a)) (.d (.str v5)) .un .un .un) := by
    rw [u_set, show mCall 3 m__law_padded (mCons (mVar 0) (mCons (mVar 1) (mCons (mVar 2) (mNil)))) (Rt x4 s w a (.d (wd s a)) .un .un .un .un) = _ from e5]
    rfl
  obtain ⟨y6, x6, e6, k6, at_, rfl, q1, q2⟩ := ex_draw (n := 2) (t := (Rt x5 s w a (.d (wd s a)) (.d (.str v5)) .un .un .un).tail) (r := mCons (mBin addD (mCB lenD (mCons (mVar 2) (mNil))) (mC (.int 1))) (mNil)) (bit_draws (m := (w.length : Int) + 1) (by omega) (Nat.lt_of_lt_of_le (log2_lt (k := 11) (by omega) (by decide)) (by decide))) k5 (by omega) (fun _ => .one (hd_d (p_bin (x := .int w.length) (y := .int 1) (hd_d (p_cb (xs := [.str w]) (.one rfl) (lens (by omega)))) p_c rfl))) rfl
  obtain ⟨i0, rfl⟩ : ∃ i0 : Nat, at_ = i0 := ⟨at_.toNat, by omega⟩
  have s6 : sSet 6 (mCall 2 m__law_bit (mCons (mVar 0) (mCons (mBin addD (mCB lenD (mCons (mVar 2) (mNil))) (mC (.int 1))) (mNil)))) (Rt x5 s w a (.d (wd s a)) (.d (.str v5)) .un .un .un) = .nx (Rt x6 s w a (.d (wd s a)) (.d (.str v5)) (.d (.int (i0 : Int))) .un .un) := by
    rw [u_set, show mCall 2 m__law_bit (mCons (mVar 0) (mCons (mBin addD (mCB lenD (mCons (mVar 2) (mNil))) (mC (.int 1))) (mNil))) (Rt x5 s w a (.d (wd s a)) (.d (.str v5)) .un .un .un) = _ from e6]
    rfl
  have lup := upL_len sg
  have lsl := sg.len
  have lsp := sg.pos
  obtain ⟨y7, x7, e7, k7, ch, hc, rfl⟩ := ex_draw (n := 2) (t := (Rt x6 s w a (.d (wd s a)) (.d (.str v5)) (.d (.int (i0 : Int))) .un .un).tail) (r := mCons (mBin addD (mVar 1) (mBM "str" upperD (mVar 1) mNil)) (mNil)) (pick_str (s := s ++ upL s) (by omega) (by omega)) k6 (by omega) (fun _ => .one (hd_d (up_add sg rfl))) rfl
  have Ac : Al s ch := sg.al.mpr hc
  obtain ⟨v7, e7v⟩ : ∃ v7, v7 = w.take i0 ++ [ch] ++ w.drop (min (i0 + 1) w.length) := ⟨_, rfl⟩
  have a7 : AlT s v7 := fun z hz => by
    rw [e7v] at hz
    rcases List.mem_append.mp hz with hz | hz
    · rcases List.mem_append.mp hz with hz | hz
      · exact hw z (List.mem_of_mem_take hz)
      · rw [List.mem_singleton] at hz
        subst hz
        exact Ac
    · exact hw z (List.mem_of_mem_drop hz)
  have l7 : v7.length ≤ 100 := by
    rw [e7v, List.length_append, List.length_append, List.length_take, List.length_drop, List.length_singleton]
    omega
  have s7 : sSet 7 (mBin addD (mBin addD (mSlice sliceD (mVar 2) (mNoPart) (mPart (mVar 6))) (mCall 2 m__law_pick (mCons (mVar 0) (mCons (mBin addD (mVar 1) (mBM "str" upperD (mVar 1) mNil)) (mNil))))) (mSlice sliceD (mVar 2) (mPart (mBin addD (mVar 6) (mC (.int 1)))) (mNoPart))) (Rt x6 s w a (.d (wd s a)) (.d (.str v5)) (.d (.int (i0 : Int))) .un .un) = .nx (Rt x7 s w a (.d (wd s a)) (.d (.str v5)) (.d (.int (i0 : Int))) (.d (.str v7)) .un) := by
    have b1 := p_slice (ρ := Rt x6 s w a (.d (wd s a)) (.d (.str v5)) (.d (.int (i0 : Int))) .un .un) (a := mVar 2) (x := .str w) (l := mNoPart) (u := mPart (mVar 6)) rfl rfl (p_part rfl) (slice_h (j := i0) (by omega) (by omega))
    have sl : sliceD (.str w) (some ((i0 : Int) + 1)) none = some (.d (.str (w.drop (min (i0 + 1) w.length)))) := by
      show (if w.length ≤ sizeLine then some (RV.d (.str (cutL w (some ((i0 : Int) + 1)) none))) else none) = _
      rw [if_pos (by omega), show (i0 : Int) + 1 = ((i0 + 1 : Nat) : Int) by omega]
      simp [cutL, HT.sIx_nat, HT.sIx_none]
      exact List.take_of_length_le (by simp)
    have b2 := p_slice (ρ := Rt x7 s w a (.d (wd s a)) (.d (.str v5)) (.d (.int (i0 : Int))) .un .un) (a := mVar 2) (x := .str w) (l := mPart (mBin addD (mVar 6) (mC (.int 1)))) (u := mNoPart) rfl (p_part (p_bin (x := .int (i0 : Int)) (y := .int 1) rfl p_c rfl)) rfl sl
    have c1 := ev_bin b1 (b := mCall 2 m__law_pick (mCons (mVar 0) (mCons (mBin addD (mVar 1) (mBM "str" upperD (mVar 1) mNil)) (mNil)))) e7 (addS (by rw [List.length_take, List.length_singleton]; omega))
    have c2 := ev_bin c1 b2 (addS (by rw [List.length_append, List.length_take, List.length_drop, List.length_singleton]; omega))
    rw [u_set, c2, e7v]
    rfl
  obtain ⟨y8, x8, e8, k8, v8, rfl, a8, l8⟩ := ex_draw (n := 3) (t := (Rt x7 s w a (.d (wd s a)) (.d (.str v5)) (.d (.int (i0 : Int))) (.d (.str v7)) .un).tail) (r := mCons (mVar 1) (mCons (mC (.int 4)) (mNil))) (mixed_draws (m := 4) sg (by decide) (by decide)) k7 (by omega) (fun _ => .two rfl p_c) rfl
  have it : mItems (mTup (mCons (mVar 5) (mCons (mVar 7) (mCons (mVar 4) (mCons (mUn revD (mVar 2)) (mCons (mCall 3 m__law_mixed (mCons (mVar 0) (mCons (mVar 1) (mCons (mC (.int 4)) (mNil))))) (mNil))))))) (Rt x7 s w a (.d (wd s a)) (.d (.str v5)) (.d (.int (i0 : Int))) (.d (.str v7)) .un) = .ok ([v5, v7, ex a, w.reverse, v8].map D.str) (Rt x8 s w a (.d (wd s a)) (.d (.str v5)) (.d (.int (i0 : Int))) (.d (.str v7)) .un) := by
    have r : mUn revD (mVar 2) (Rt x7 s w a (.d (wd s a)) (.d (.str v5)) (.d (.int (i0 : Int))) (.d (.str v7)) .un) = .ok (.d (.str w.reverse)) (Rt x7 s w a (.d (wd s a)) (.d (.str v5)) (.d (.int (i0 : Int))) (.d (.str v7)) .un) := by
      refine p_un (x := .str w) rfl ?_
      show (if w.length ≤ sizeLine then some (RV.d (.str w.reverse)) else none) = _
      rw [if_pos (by omega)]
    have cs : (mCons (mVar 5) (mCons (mVar 7) (mCons (mVar 4) (mCons (mUn revD (mVar 2)) (mCons (mCall 3 m__law_mixed (mCons (mVar 0) (mCons (mVar 1) (mCons (mC (.int 4)) (mNil))))) (mNil)))))) (Rt x7 s w a (.d (wd s a)) (.d (.str v5)) (.d (.int (i0 : Int))) (.d (.str v7)) .un) = .ok ([D.str v5, .str v7, .str (ex a), .str w.reverse, .str v8].map HV.d) (Rt x8 s w a (.d (wd s a)) (.d (.str v5)) (.d (.int (i0 : Int))) (.d (.str v7)) .un) := by
      have c5 : mHold (mVar 5) (Rt x7 s w a (.d (wd s a)) (.d (.str v5)) (.d (.int (i0 : Int))) (.d (.str v7)) .un) = .ok (.d (.str v5)) (Rt x7 s w a (.d (wd s a)) (.d (.str v5)) (.d (.int (i0 : Int))) (.d (.str v7)) .un) := rfl
      have c7 : mHold (mVar 7) (Rt x7 s w a (.d (wd s a)) (.d (.str v5)) (.d (.int (i0 : Int))) (.d (.str v7)) .un) = .ok (.d (.str v7)) (Rt x7 s w a (.d (wd s a)) (.d (.str v5)) (.d (.int (i0 : Int))) (.d (.str v7)) .un) := rfl
      have c4 : mHold (mVar 4) (Rt x7 s w a (.d (wd s a)) (.d (.str v5)) (.d (.int (i0 : Int))) (.d (.str v7)) .un) = .ok (.d (.str (ex a))) (Rt x7 s w a (.d (wd s a)) (.d (.str v5)) (.d (.int (i0 : Int))) (.d (.str v7)) .un) := rfl
      rw [u_cons, c5, u_bok, u_cons, c7, u_bok, u_cons, c4, u_bok, u_cons, hd_d r, u_bok, u_cons, u_hold, show mCall 3 m__law_mixed (mCons (mVar 0) (mCons (mVar 1) (mCons (mC (.int 4)) (mNil)))) (Rt x7 s w a (.d (wd s a)) (.d (.str v5)) (.d (.int (i0 : Int))) (.d (.str v7)) .un) = _ from e8]
      rfl
    unfold mItems mForce
    rw [u_tup, cs, u_bok, MM.force_all, u_bok, if_pos (by show 5 ≤ sizeLine; omega), u_bok, u_frv_d, u_bok]
    rfl
  let N : Nat := n + 1 + 2000 + 10000 + 10000 + 1000 + 1 + 1 + 2000
  have hN : N = n + 25003 := by show n + 1 + 2000 + 10000 + 10000 + 1000 + 1 + 1 + 2000 = _; omega
  let I : Nat → List S → Prop := fun k ρ => ∃ (z : D) (s8 : S), ρ = Rt z s w a (.d (wd s a)) (.d (.str v5)) (.d (.int (i0 : Int))) (.d (.str v7)) s8 ∧ TrayOk (n + 25003 + 10000 * k) z ∧ (s8 = .un ∨ ∃ d, s8 = .d d)
  obtain ⟨ρe, lp, z, s8, rfl, kz, _⟩ := loopM_inv (body := fun x ρ => match (Tg.nm 8).put x ρ with
    | some ρ2 => nrB ρ2
    | none => .bad) I ([v5, v7, ex a, w.reverse, v8].map D.str) 0 (Rt x8 s w a (.d (wd s a)) (.d (.str v5)) (.d (.int (i0 : Int))) (.d (.str v7)) .un) ⟨x8, .un, rfl, k8.mono (by omega), .inl rfl⟩ (fun i ρ d hd hI => by
      obtain ⟨z, s8, rfl, kz, f8⟩ := hI
      rw [Nat.zero_add] at *
      have hi := (List.getElem?_eq_some_iff.mp hd).1
      have hm := List.mem_of_getElem? hd
      obtain ⟨v, hv, rfl⟩ := List.mem_map.mp hm
      have ok : AlT s v ∧ v.length ≤ 100 := by
        have lx := hT.exl
        simp only [List.mem_cons, List.not_mem_nil, or_false] at hv
        rcases hv with rfl | rfl | rfl | rfl | rfl
        · exact ⟨a5, by omega⟩
        · exact ⟨a7, l7⟩
        · exact ⟨hT.exal, by omega⟩
        · exact ⟨fun z hz => hw z (List.mem_reverse.mp hz), by rw [List.length_reverse]; omega⟩
        · exact ⟨a8, by omega⟩
      have hi5 : i < 5 := hi
      obtain ⟨z', en, kn⟩ := near_ok (s5 := .d (.str v5)) (s6 := .d (.int (i0 : Int))) (s7 := .d (.str v7)) hT ok.1 ok.2 kz (by omega)
      have pt : (Tg.nm 8).put (.str v) (Rt z s w a (.d (wd s a)) (.d (.str v5)) (.d (.int (i0 : Int))) (.d (.str v7)) s8) = some (Rt z s w a (.d (wd s a)) (.d (.str v5)) (.d (.int (i0 : Int))) (.d (.str v7)) (.d (.str v))) := by
        rcases f8 with rfl | ⟨_, rfl⟩ <;> rfl
      refine ⟨_, .inl ?_, z', .d (.str v), rfl, kn.mono (by omega), .inr ⟨_, rfl⟩⟩
      rw [pt]
      exact en)
  rw [List.length_map, Nat.zero_add] at kz
  have kz' : TrayOk (n + 200000) z := kz.mono (by show n + 25003 + 10000 * 5 ≤ _; omega)
  have fin : (mEqO ["Word"] [("Word", m_Word___eq__)] (mClsM 3 "Word" m_Word_of (mC (.cls "Word")) (mCons (mVar 1) (mCons (mVar 5) (mNil)))) (mVar 3)) (Rt z s w a (.d (wd s a)) (.d (.str v5)) (.d (.int (i0 : Int))) (.d (.str v7)) s8) = .ok (.d (.bl true)) (Rt z s w a (.d (wd s a)) (.d (.str v5)) (.d (.int (i0 : Int))) (.d (.str v7)) s8) := by
    have v3 : V (mVar 3) (Rt z s w a (.d (wd s a)) (.d (.str v5)) (.d (.int (i0 : Int))) (.d (.str v7)) s8) s a 14 := ⟨rfl, hT.red, hT.low, hT.alen⟩
    have o := vOf (f := mVar 1) (g := mVar 5) (R := Rt z s w a (.d (wd s a)) (.d (.str v5)) (.d (.int (i0 : Int))) (.d (.str v7)) s8) sg a5 (by omega) rfl rfl
    exact vEq o v3 (hv5.trans ea)
  refine ⟨.bl true, z, (Rt z s w a (.d (wd s a)) (.d (.str v5)) (.d (.int (i0 : Int))) (.d (.str v7)) s8).tail, ?_, kz', rfl⟩
  refine fn_eval (b := b__law_right) [.p x, .un, .un, .un, .un, .un, .un, .un, .un] rfl (rv := .d (.bl true)) (ρ1 := Rt z s w a (.d (wd s a)) (.d (.str v5)) (.d (.int (i0 : Int))) (.d (.str v7)) s8) ?_ rfl
  exact q_seq s1 (q_seq s2 (q_seq s3 (q_seq (q_ifF (or_s t1 (or_s (b2 hT) (or_s (b3 hT) t4))) q_next) (q_seq (q_ifF (b5 hT) q_next) (q_seq s5 (q_seq s6 (q_seq s7 (q_seq (for_of it lp) (ev_ret fin)))))))))
end K04
set_option Elab.async false
set_option maxRecDepth 100000
set_option maxHeartbeats 4000000
namespace K04
open PySem MM FG WW
def told : D := .lst [.str [97, 66, 97], .tup [], .int 0, .tup [.tup [.str [122], .int 1]]]
def tA : Sm := (sSet 4 (mLst (mCons (mMethO 1 "shortest" [("Word", m_Word_shortest)] (mClsM 3 "Word" m_Word_of (mC (.cls "Word")) (mCons (mC (.str [97, 98])) (mCons (mC (.str [97, 98, 66, 66, 97])) (mNil)))) mNil) (mCons (mPropO [("Word", m_Word_runs)] (mClsM 3 "Word" m_Word_of (mC (.cls "Word")) (mCons (mC (.str [97, 98])) (mCons (mC (.str [97, 98, 66, 65])) (mNil))))) (mCons (mPropO [("Word", m_Word_size)] (mClsM 3 "Word" m_Word_of (mC (.cls "Word")) (mCons (mC (.str [97, 98])) (mCons (mC (.str [97, 65, 97, 65])) (mNil))))) (mCons (mPropO [("Word", m_Word_runs)] (mClsM 3 "Word" m_Word_of (mC (.cls "Word")) (mCons (mC (.str [120, 121, 122])) (mCons (mC (.str [122, 122, 90, 88, 120])) (mNil))))) (mNil)))))))
def tB : Ex := (mBin eqD (mVar 4) (mLst (mCons (mC (.str [97, 66, 97])) (mCons (mTup (mNil)) (mCons (mC (.int 0)) (mCons (mTup (mCons (mTup (mCons (mC (.str [122])) (mCons (mC (.int 1)) (mNil)))) (mNil))) (mNil)))))))
def tC : Ex := (mBin eqD (mPropO [("Word", m_Word_runs)] (mClsM 3 "Word" m_Word_of (mC (.cls "Word")) (mCons (mC (.str [97])) (mCons (mBin mulD (mC (.str [65])) (mC (.int 4000))) (mNil))))) (mTup (mCons (mTup (mCons (mC (.str [97])) (mCons (mUn negD (mC (.int 4000))) (mNil)))) (mNil))))
def tailM : Sm := sSeq tA (sRet (mAndV tB tC))
def lpB : Sm := sSeq (sSet 2 (mCall 2 m__law_tray (mCons (mVar 0) (mCons (mVar 1) (mNil))))) (sFor (mSrc rng1 (mCons (mC (.int 4)) (mNil))) (.nm 3) (sIf (mNotT (mTruth (mCall 1 m__law_right (mCons (mVar 2) (mNil))))) (sRet (mC (.bl false))) (sNext)))
theorem law_eq : b_law = sSeq (sFor (mSrc rng1 (mCons (mCB maxD (mCons (mC (.int 1)) (mCons (mCB minD (mCons (mC (.int 6)) (mCons (mCB lenD (mCons (mVar 0) (mNil))) (mNil)))) (mNil)))) (mNil))) (.nm 1) lpB) tailM := rfl
theorem sg_of {s : Lt} (h1 : LetOk s) (h2 : (s.all fun c => decide (97 ≤ c ∧ c ≤ 122)) = true) (h3 : 0 < s.length) (h4 : s.length ≤ 400) (h5 : upL s = s.map (· - 32)) : WSg s := by
  have a : Small s := fun c hc => of_decide_eq_true (List.all_eq_true.mp h2 c hc)
  exact ⟨h1, fun c hc => by have := (a c hc).2; omega, h3, h4, a, h5⟩
theorem al_of {s w : Lt} (h : (w.all fun c => decide ((97 ≤ c ∧ c ∈ s) ∨ (c < 97 ∧ c + 32 ∈ s))) = true) : AlT s w := fun c hc => (of_decide_eq_true (List.all_eq_true.mp h c hc) : (97 ≤ c ∧ c ∈ s) ∨ (c < 97 ∧ c + 32 ∈ s))
theorem of_t {s w : Lt} {a : List Rn} {ρ : List S} (sg : WSg s) (al : AlT s w) (e : nf (w.map FG.lt) = a) (h1 : w.length ≤ 100) : Hd (mClsM 3 "Word" m_Word_of (mC (.cls "Word")) (mCons (mC (.str s)) (mCons (mC (.str w)) (mNil)))) ρ (wd s a) := by
  have l : (nf (w.map FG.lt)).length ≤ 100 := Nat.le_trans nf_len (by rw [List.length_map]; exact h1)
  have o := of_ok sg al (by omega) (by omega)
  rw [e] at o
  exact hd_f (p_clsm p_c (.two p_c p_c) rfl o)
theorem tA_ok (x : D) (s1 s2 s3 : S) : tA [.d x, s1, s2, s3, .un] = .nx [.d x, s1, s2, s3, .o told] := by
  have hz := szl
  have g1 : WSg [97, 98] := sg_of ⟨_, rfl⟩ rfl (by decide) (by decide) (by decide +kernel)
  have g2 : WSg [120, 121, 122] := sg_of ⟨_, rfl⟩ rfl (by decide) (by decide) (by decide +kernel)
  have w1 := of_t (ρ := [.d x, s1, s2, s3, .un]) (w := [97, 98, 66, 66, 97]) (a := [([97], 1), ([98], -1), ([97], 1)]) g1 (al_of rfl) (by decide) (by decide)
  have w2 := of_t (ρ := [.d x, s1, s2, s3, .un]) (w := [97, 98, 66, 65]) (a := []) g1 (al_of rfl) (by decide) (by decide)
  have w3 := of_t (ρ := [.d x, s1, s2, s3, .un]) (w := [97, 65, 97, 65]) (a := []) g1 (al_of rfl) (by decide) (by decide)
  have w4 := of_t (ρ := [.d x, s1, s2, s3, .un]) (w := [122, 122, 90, 88, 120]) (a := [([122], 1)]) g2 (al_of rfl) (by decide) (by decide)
  have rn : RnS [97, 98] [([97], 1), ([98], -1), ([97], 1)] := fun r hr => by
    simp only [List.mem_cons, List.not_mem_nil, or_false] at hr
    rcases hr with rfl | rfl | rfl
    · exact ⟨97, by decide, rfl⟩
    · exact ⟨98, by decide, rfl⟩
    · exact ⟨97, by decide, rfl⟩
  have h1 := p_meth (n := 1) (own := [("Word", m_Word_shortest)]) (nm := "shortest") (k := "Word") w1 rfl rfl .nil rfl (shortest_ok g1.sm rn (by decide) (by decide))
  exact q_set (p_lst (.cons (hd_d h1) (.cons (hd_d (p_prop w2 rfl runs_ok)) (.cons (hd_d (p_prop w3 rfl (size_ok (by decide)))) (.cons (hd_d (p_prop w4 rfl runs_ok)) .nil)))) (by show 4 ≤ sizeLine; omega)) rfl
theorem tB_ok (x : D) (s1 s2 s3 : S) : tB [.d x, s1, s2, s3, .o told] = .ok (.d (.bl true)) [.d x, s1, s2, s3, .o told] := rfl
theorem tC_ok (ρ : List S) : tC ρ = .ok (.d (.bl true)) ρ := by
  have hz := szl
  obtain ⟨s, e, sg⟩ := sg_all (y := .str [97]) (by simp)
  cases e
  have al : AlT [97] (List.replicate 4000 65) := fun c hc => by
    have := List.eq_of_mem_replicate hc
    subst this
    exact .inr ⟨by decide, by decide⟩
  have nf0 : nf ((List.replicate 4000 65).map FG.lt) = [([97], -4000)] := by
    rw [List.map_replicate, show FG.lt 65 = ([97], -1) from rfl]
    show act (List.replicate 4000 (([97] : Lt), (-1 : Int))) [] = _
    rw [act_rep (r := []) trivial]
    rfl
  have o := of_ok sg al (by rw [List.length_replicate]; omega) (by rw [nf0]; decide)
  rw [nf0] at o
  have m : mBin mulD (mC (.str [65])) (mC (.int 4000)) ρ = .ok (.d (.str (List.replicate 4000 65))) ρ := by
    refine p_bin p_c p_c ?_
    show (if 1 * 4000 ≤ sizeLine ∧ (4000 : Int) ≤ 16777216 ∧ -(2 ^ 63) ≤ (4000 : Int) then some (RV.d (.str (repL 4000 [65]))) else none) = _
    rw [if_pos ⟨by omega, by decide, by decide⟩, rep1]
  have t : (mTup (mCons (mTup (mCons (mC (.str [97])) (mCons (mUn negD (mC (.int 4000))) (mNil)))) (mNil))) ρ = .ok (.d (.tup [.tup [.str [97], .int (-4000)]])) ρ :=
    p_tup (.one (hd_d (p_tup (.two p_c (hd_d (p_un p_c rfl))) (by show 2 ≤ sizeLine; omega)))) (by show 1 ≤ sizeLine; omega)
  exact p_bin (hd_d (p_prop (hd_f (p_clsm p_c (.two p_c (hd_d m)) rfl o)) rfl runs_ok)) (hd_d t) rfl
theorem tail_ok (x : D) (s1 s2 s3 : S) : tailM [.d x, s1, s2, s3, .un] = .rt (.d (.bl true)) [.d x, s1, s2, s3, .o told] :=
  q_seq (tA_ok x s1 s2 s3) (ev_ret (p_andVT (p_test (tB_ok x s1 s2 s3)) (tC_ok _)))
def Fr (s : S) : Prop := s = .un ∨ ∃ d, s = .d d
theorem law_true (ns : List Int) (hl : ns.length ≤ 63) : ∃ ρ, m_law [.d (.ro (ns.map D.int))] = .rt (.d (.bl true)) ρ := by
  obtain ⟨c, hc⟩ : ∃ c : Nat, mCB maxD (mCons (mC (.int 1)) (mCons (mCB minD (mCons (mC (.int 6)) (mCons (mCB lenD (mCons (mVar 0) (mNil))) (mNil)))) (mNil))) [.d (.ro (ns.map D.int)), .un, .un, .un, .un] = .ok (.d (.int (c : Nat))) [.d (.ro (ns.map D.int)), .un, .un, .un, .un] ∧ c ≤ 6 := by
    have lt : lenD [.ro (ns.map D.int)] = some (.d (.int (ns.length : Nat))) := by
      show some (RV.d (.int ((ns.map D.int).length : Nat))) = _
      rw [List.length_map]
    refine ⟨max 1 (min 6 ns.length), ?_, by omega⟩
    refine p_cb (xs := [.int 1, .int (if (ns.length : Int) < 6 then (ns.length : Int) else 6)]) (.two p_c (hd_d (p_cb (xs := [.int 6, .int (ns.length : Nat)]) (.two p_c (hd_d (p_cb (.one rfl) lt))) rfl))) ?_
    have eq : ∀ z : Int, z = (max 1 (min 6 ns.length) : Nat) → some (RV.d (.int z)) = some (RV.d (.int (max 1 (min 6 ns.length) : Nat))) := fun z h => by rw [h]
    refine eq _ ?_
    split <;> split <;> omega
  obtain ⟨e1, hc⟩ := hc
  have it : mSrc rng1 (mCons (mCB maxD (mCons (mC (.int 1)) (mCons (mCB minD (mCons (mC (.int 6)) (mCons (mCB lenD (mCons (mVar 0) (mNil))) (mNil)))) (mNil)))) (mNil)) [.d (.ro (ns.map D.int)), .un, .un, .un, .un] = .ok (rngD 0 c) [.d (.ro (ns.map D.int)), .un, .un, .un, .un] := by
    have := src1i (cons1 e1) (by omega) (by omega)
    simpa using this
  let I : Nat → List S → Prop := fun k ρ => ∃ (s1 s2 s3 : S), ρ = [.d (.ro (ns.map D.int)), s1, s2, s3, .un] ∧ Fr s1 ∧ (s2 = .un ∨ ∃ d, s2 = .o d) ∧ Fr s3
  obtain ⟨ρe, l1, s1, s2, s3, rfl, h1, h2, h3⟩ := loopM_inv (body := fun x ρ => match (Tg.nm 1).put x ρ with
    | some ρ2 => lpB ρ2
    | none => .bad) I (rngD 0 c) 0 [.d (.ro (ns.map D.int)), .un, .un, .un, .un] ⟨.un, .un, .un, rfl, .inl rfl, .inl rfl, .inl rfl⟩ (fun i ρ d hd hI => by
      obtain ⟨s1, s2, s3, rfl, h1, h2, h3⟩ := hI
      obtain ⟨hi, rfl⟩ := rngD_get hd
      rw [Int.zero_add]
      have pt : (Tg.nm 1).put (.int (i : Int)) [.d (.ro (ns.map D.int)), s1, s2, s3, .un] = some [.d (.ro (ns.map D.int)), .d (.int (i : Int)), s2, s3, .un] := by
        rcases h1 with rfl | ⟨_, rfl⟩ <;> simp
      obtain ⟨x, ρt, et, ht⟩ := tray_ok ns i (by omega)
      have st : sSet 2 (mCall 2 m__law_tray (mCons (mVar 0) (mCons (mVar 1) (mNil)))) [.d (.ro (ns.map D.int)), .d (.int (i : Int)), s2, s3, .un] = .nx [.d (.ro (ns.map D.int)), .d (.int (i : Int)), .o x, s3, .un] := by
        refine q_set (p_call (xs := [.ro (ns.map D.int), .int (i : Int)]) (.two rfl rfl) rfl ⟨ρt, et⟩) ?_
        rcases h2 with rfl | ⟨_, rfl⟩ <;> rfl
      let J : Nat → List S → Prop := fun k ρ => ∃ (z : D) (s3 : S), ρ = [.d (.ro (ns.map D.int)), .d (.int (i : Int)), .o z, s3, .un] ∧ TrayOk (200000 * k) z ∧ Fr s3
      obtain ⟨ρj, l2, z, s3', rfl, _, h3'⟩ := loopM_inv (body := fun x ρ => match (Tg.nm 3).put x ρ with
        | some ρ2 => (sIf (mNotT (mTruth (mCall 1 m__law_right (mCons (mVar 2) (mNil))))) (sRet (mC (.bl false))) (sNext)) ρ2
        | none => .bad) J (rngD 0 4) 0 [.d (.ro (ns.map D.int)), .d (.int (i : Int)), .o x, s3, .un] ⟨x, s3, rfl, ht, h3⟩ (fun j ρ d hd hJ => by
          obtain ⟨z, s3, rfl, kz, h3⟩ := hJ
          rw [Nat.zero_add] at *
          have hj := (rngD_get hd).1
          have pt : (Tg.nm 3).put d [.d (.ro (ns.map D.int)), .d (.int (i : Int)), .o z, s3, .un] = some [.d (.ro (ns.map D.int)), .d (.int (i : Int)), .o z, .d d, .un] := by
            rcases h3 with rfl | ⟨_, rfl⟩ <;> simp
          obtain ⟨y1, x1, ρ1, e1, k1, rfl⟩ := right_draws _ z kz (by omega)
          have d1 : mNotT (mTruth (mCall 1 m__law_right (mCons (mVar 2) (mNil)))) [.d (.ro (ns.map D.int)), .d (.int (i : Int)), .o z, .d d, .un] = .ok false [.d (.ro (ns.map D.int)), .d (.int (i : Int)), .o x1, .d d, .un] :=
            ev_notT (ev_truth (p_draw (i := 2) (s := .o z) (x' := x1) (xs := []) rfl (.inr rfl) .nil rfl e1))
          refine ⟨[.d (.ro (ns.map D.int)), .d (.int (i : Int)), .o x1, .d d, .un], .inl ?_, x1, .d d, rfl, k1.mono (by omega), .inr ⟨_, rfl⟩⟩
          rw [pt]
          dsimp only
          rw [ev_if d1]
          rfl)
      refine ⟨[.d (.ro (ns.map D.int)), .d (.int (i : Int)), .o z, s3', .un], .inl ?_, _, _, _, rfl, .inr ⟨_, rfl⟩, .inr ⟨_, rfl⟩, h3'⟩
      rw [pt]
      exact q_seq st (for_of (ρ1 := [.d (.ro (ns.map D.int)), .d (.int (i : Int)), .o x, s3, .un]) (src1i (j := 4) rfl (by decide) (by decide)) l2))
  exact ⟨_, fn_eval (b := b_law) [.d (.ro (ns.map D.int)), .un, .un, .un, .un] rfl (rv := .d (.bl true)) (by rw [law_eq]; exact q_seq (for_of it l1) (tail_ok _ s1 s2 s3)) rfl⟩
end K04
set_option Elab.async false
set_option maxRecDepth 100000
set_option maxHeartbeats 4000000
namespace K04
open PySem PySem.Spec PyProof.Rows L2 MM
def top (i : Nat) : Stmt := PySem.Challenge.pw_signedcounts_k04_whole_words_by_cancelli.main.body.getD i (.Pass ⟨0, 0, 0, 0⟩)
def inCls (i j : Nat) : Stmt := match top i with
  | .ClassDef _ _ _ b _ _ _ _ _ _ _ => b.getD j (.Pass ⟨0, 0, 0, 0⟩)
  | _ => .Pass ⟨0, 0, 0, 0⟩
structure Mg (K : PySem.W.Frag) (mg : Str → Option Value) : Prop where
  n_abs : mg "abs" = none
  n_all : mg "all" = none
  n_bool : mg "bool" = none
  n_int : mg "int" = none
  n_isinstance : mg "isinstance" = none
  n_len : mg "len" = none
  n_max : mg "max" = none
  n_min : mg "min" = none
  n_range : mg "range" = none
  n_str : mg "str" = none
  n_sum : mg "sum" = none
  n_tuple : mg "tuple" = none
  n_zip : mg "zip" = none
  i_GREATEST : ∃ t, mg "GREATEST" = some (.int 99999999999999999999999999999999999999999999999999999999999999999999999999999999999999999999999999999999999999999999999999999999999999999999999999999999999999999999999999999999999999999999999999999999 t)
  i_MAX_RUNS : ∃ t, mg "MAX_RUNS" = some (.int 200 t)
  i_MAX_TEXT : ∃ t, mg "MAX_TEXT" = some (.int 4000 t)
  i_MOST_LETTERS : ∃ t, mg "MOST_LETTERS" = some (.int 3 t)
  e_InvalidLetters : ExcF K mg (clsOf xnames K) "InvalidLetters"
  e_InvalidOperation : ExcF K mg (clsOf xnames K) "InvalidOperation"
  e_InvalidText : ExcF K mg (clsOf xnames K) "InvalidText"
  cf_Word : ClsF K mg (clsOf xnames K) ["Word"] "Word"
  f_own_letters : FldF K (clsOf xnames K) ["Word"] "own_letters"
  f_own_runs : FldF K (clsOf xnames K) ["Word"] "own_runs"
  eqf : EqF K mg (clsOf xnames K) ["Word"] [("Word", m_Word___eq__)]
theorem noFn {P : Program} {w : World} {K : PySem.W.Frag} {mg : Str → Option Value} {base : Heap} {CX : CXT} {G : GG} {k : Nat} {f : Addr} {fd : FuncData} {ps : List Str} {n : Nat} (h : n = ps.length) : FnOk P w K mg base CX k f fd ps (spM G (fun _ => .bad) n) := ⟨fun vs H Q E q => q.1.trans h, fun A outer s H args us vs Q E hr e0 b r q => by
  obtain ⟨_, F, ss, _, _, z⟩ := q
  exact z.elim⟩
section
variable {P : Program} {w : World} {K : PySem.W.Frag} {mg : Str → Option Value} {base : Heap} {T : List (Addr × Str)} {f : Addr} {fd : FuncData}
abbrev s_are_small : Stmt := top 14
abbrev N_are_small : List Str := ["text", "sign"]
theorem sc_are_small : FnScope N_are_small ["text"] (defScope s_are_small) := ⟨rfl, rfl, rfl, by decide +kernel, rfl, by decide +kernel, by decide +kernel⟩
theorem ok_are_small (fx : Mg K mg)  (F : FunD K "are_small" "are_small" (defArgs s_are_small) (defBody s_are_small) (defScope s_are_small) [] [] f fd) : FnOk P w K mg base (L2.CX P w) 1 f fd ["text"] (spM ⟨K, clsOf xnames K, T⟩ m_are_small 1) := by
  have h : FnOk P w K mg base (L2.CX P w) (0 + 1) f fd ["text"] (spM ⟨K, clsOf xnames K, T⟩ (fnM N_are_small.length b_are_small) ["text"].length) := fnM_ok (k := 0) (G := ⟨K, clsOf xnames K, T⟩) (N := N_are_small) (ps := ["text"]) b_are_small F sc_are_small fun cdv A outer s H E hr hu hp g W tk => (mss_one (ms_ret (me_callB (c_all rfl) rfl fx.n_all (by decide +kernel) (ma_cons (me_lc (own := [("sign", 1)]) rfl sc_are_small.nd (mi_any rfl (me_var (pv 0))) (blkOk_by (N := N_are_small) (sc := defScope s_are_small) (by decide +kernel)) (fun _ _ _ _ _ _ => (mg_name (i := 1) sc_are_small.nd rfl (by first | exact .inl rfl | exact .inr rfl))) (fun _ _ _ _ _ _ => mts_nil) (fun _ _ _ _ _ _ => (me_chain o_le o_le (me_strL (by decide +kernel)) (me_var (pv 1)) (me_strL (by decide +kernel)))) (by decide)) ma_nil))))
  exact h
abbrev s_is_letters : Stmt := top 15
abbrev N_is_letters : List Str := ["value", "one", "other"]
theorem sc_is_letters : FnScope N_is_letters ["value"] (defScope s_is_letters) := ⟨rfl, rfl, rfl, by decide +kernel, rfl, by decide +kernel, by decide +kernel⟩
theorem ok_is_letters (fx : Mg K mg) (c_are_small : Cal P w K mg base ⟨K, clsOf xnames K, T⟩ 1 "are_small" 1 m_are_small) (F : FunD K "is_letters" "is_letters" (defArgs s_is_letters) (defBody s_is_letters) (defScope s_is_letters) [] [] f fd) : FnOk P w K mg base (L2.CX P w) 2 f fd ["value"] (spM ⟨K, clsOf xnames K, T⟩ m_is_letters 1) := by
  have h : FnOk P w K mg base (L2.CX P w) (1 + 1) f fd ["value"] (spM ⟨K, clsOf xnames K, T⟩ (fnM N_is_letters.length b_is_letters) ["value"].length) := fnM_ok (k := 1) (G := ⟨K, clsOf xnames K, T⟩) (N := N_is_letters) (ps := ["value"]) b_is_letters F sc_is_letters fun cdv A outer s H E hr hu hp g W tk => (mss_cons (ms_if (mt_w (mw_or (mt_not (mt_truth rfl (me_isT rfl rfl fx.n_isinstance rfl fx.n_str (by decide +kernel) (by decide) (me_var (pv 0))))) (mw_or (mt_not (mt_chain o_le o_le me_int (me_callB (c_len rfl) rfl fx.n_len (by decide +kernel) (ma_cons (me_var (pv 0)) ma_nil)) (me_gint rfl fx.i_MOST_LETTERS))) (mw_or1 (mt_not (mt_truth rfl (me_call c_are_small hr (by decide) rfl tk (ma_cons (me_var (pv 0)) ma_nil)))))))) (mss_one (ms_ret me_bl)) mss_nil) (mss_one (ms_ret (me_callB (c_all rfl) rfl fx.n_all (by decide +kernel) (ma_cons (me_lc (own := [("one", 1), ("other", 2)]) rfl sc_is_letters.nd (mi_zip rfl rfl fx.n_zip (ma_cons (me_var (pv 0)) (ma_cons (me_slice (s_slice rfl) (me_var (pv 0)) (mo_some me_int) mo_none) ma_nil))) (blkOk_by (N := N_is_letters) (sc := defScope s_is_letters) (by decide +kernel)) (fun _ _ _ _ _ _ => (mg_tup rfl rfl (mgs_cons (mg_name (i := 1) sc_is_letters.nd rfl (by first | exact .inl rfl | exact .inr rfl)) (mgs_cons (mg_name (i := 2) sc_is_letters.nd rfl (by first | exact .inl rfl | exact .inr rfl)) mgs_nil)))) (fun _ _ _ _ _ _ => mts_nil) (fun _ _ _ _ _ _ => (me_cmp o_lt (me_var (pv 1)) (me_var (pv 2)) (by rfl))) (by decide)) ma_nil)))))
  exact h
abbrev s_require_letters : Stmt := top 17
abbrev N_require_letters : List Str := ["value"]
theorem sc_require_letters : FnScope N_require_letters ["value"] (defScope s_require_letters) := ⟨rfl, rfl, rfl, by decide +kernel, rfl, by decide +kernel, by decide +kernel⟩
theorem ok_require_letters (fx : Mg K mg) (c_is_letters : Cal P w K mg base ⟨K, clsOf xnames K, T⟩ 2 "is_letters" 1 m_is_letters) (F : FunD K "require_letters" "require_letters" (defArgs s_require_letters) (defBody s_require_letters) (defScope s_require_letters) [] [] f fd) : FnOk P w K mg base (L2.CX P w) 3 f fd ["value"] (spM ⟨K, clsOf xnames K, T⟩ m_require_letters 1) := by
  have h : FnOk P w K mg base (L2.CX P w) (2 + 1) f fd ["value"] (spM ⟨K, clsOf xnames K, T⟩ (fnM N_require_letters.length b_require_letters) ["value"].length) := fnM_ok (k := 2) (G := ⟨K, clsOf xnames K, T⟩) (N := N_require_letters) (ps := ["value"]) b_require_letters F sc_require_letters fun cdv A outer s H E hr hu hp g W tk => (mss_one (ms_if (mt_not (mt_truth rfl (me_call c_is_letters hr (by decide) rfl tk (ma_cons (me_var (pv 0)) ma_nil)))) (mss_one (ms_raise rfl tk fx.e_InvalidLetters rfl)) mss_nil))
  exact h
abbrev s_is_integer : Stmt := top 12
abbrev N_is_integer : List Str := ["value"]
theorem sc_is_integer : FnScope N_is_integer ["value"] (defScope s_is_integer) := ⟨rfl, rfl, rfl, by decide +kernel, rfl, by decide +kernel, by decide +kernel⟩
theorem ok_is_integer (fx : Mg K mg)  (F : FunD K "is_integer" "is_integer" (defArgs s_is_integer) (defBody s_is_integer) (defScope s_is_integer) [] [] f fd) : FnOk P w K mg base (L2.CX P w) 1 f fd ["value"] (spM ⟨K, clsOf xnames K, T⟩ m_is_integer 1) := by
  have h : FnOk P w K mg base (L2.CX P w) (0 + 1) f fd ["value"] (spM ⟨K, clsOf xnames K, T⟩ (fnM N_is_integer.length b_is_integer) ["value"].length) := fnM_ok (k := 0) (G := ⟨K, clsOf xnames K, T⟩) (N := N_is_integer) (ps := ["value"]) b_is_integer F sc_is_integer fun cdv A outer s H E hr hu hp g W tk => (mss_one (ms_ret (me_and (me_isT rfl rfl fx.n_isinstance rfl fx.n_int (by decide +kernel) (by decide) (me_var (pv 0))) (me_and (me_not (me_isT rfl rfl fx.n_isinstance rfl fx.n_bool (by decide +kernel) (by decide) (me_var (pv 0)))) (me_one (me_chain o_le o_le (me_un u_neg (me_gint rfl fx.i_GREATEST)) (me_var (pv 0)) (me_gint rfl fx.i_GREATEST)))))))
  exact h
abbrev s_is_run : Stmt := top 25
abbrev N_is_run : List Str := ["letters", "value"]
theorem sc_is_run : FnScope N_is_run ["letters", "value"] (defScope s_is_run) := ⟨rfl, rfl, rfl, by decide +kernel, rfl, by decide +kernel, by decide +kernel⟩
theorem ok_is_run (fx : Mg K mg) (c_is_integer : Cal P w K mg base ⟨K, clsOf xnames K, T⟩ 1 "is_integer" 1 m_is_integer) (F : FunD K "is_run" "is_run" (defArgs s_is_run) (defBody s_is_run) (defScope s_is_run) [] [] f fd) : FnOk P w K mg base (L2.CX P w) 2 f fd ["letters", "value"] (spM ⟨K, clsOf xnames K, T⟩ m_is_run 2) := by
  have h : FnOk P w K mg base (L2.CX P w) (1 + 1) f fd ["letters", "value"] (spM ⟨K, clsOf xnames K, T⟩ (fnM N_is_run.length b_is_run) ["letters", "value"].length) := fnM_ok (k := 1) (G := ⟨K, clsOf xnames K, T⟩) (N := N_is_run) (ps := ["letters", "value"]) b_is_run F sc_is_run fun cdv A outer s H E hr hu hp g W tk => (mss_cons (ms_if (mt_w (mw_or (mt_not (mt_truth rfl (me_isT rfl rfl fx.n_isinstance rfl fx.n_tuple (by decide +kernel) (by decide) (me_var (pv 1))))) (mw_or (mt_cmp (o_ne rfl hu) (me_callB (c_len rfl) rfl fx.n_len (by decide +kernel) (ma_cons (me_var (pv 1)) ma_nil)) me_int (by rfl)) (mw_or (mt_not (mt_truth rfl (me_isT rfl rfl fx.n_isinstance rfl fx.n_str (by decide +kernel) (by decide) (me_ix (i_ix rfl) (me_var (pv 1)) me_int)))) (mw_or1 (mt_not (mt_truth rfl (me_call c_is_integer hr (by decide) rfl tk (ma_cons (me_ix (i_ix rfl) (me_var (pv 1)) me_int) ma_nil))))))))) (mss_one (ms_ret me_bl)) mss_nil) (mss_one (ms_ret (me_and (me_cmp (o_eq rfl hu) (me_callB (c_len rfl) rfl fx.n_len (by decide +kernel) (ma_cons (me_ix (i_ix rfl) (me_var (pv 1)) me_int) ma_nil)) me_int (by rfl)) (me_one (me_cmp (o_in rfl) (me_ix (i_ix rfl) (me_var (pv 1)) me_int) (me_var (pv 0)) (by rfl)))))))
  exact h
abbrev s_require_runs : Stmt := top 26
abbrev N_require_runs : List Str := ["letters", "value", "run"]
theorem sc_require_runs : FnScope N_require_runs ["letters", "value"] (defScope s_require_runs) := ⟨rfl, rfl, rfl, by decide +kernel, rfl, by decide +kernel, by decide +kernel⟩
theorem ok_require_runs (fx : Mg K mg) (c_is_run : Cal P w K mg base ⟨K, clsOf xnames K, T⟩ 2 "is_run" 2 m_is_run) (F : FunD K "require_runs" "require_runs" (defArgs s_require_runs) (defBody s_require_runs) (defScope s_require_runs) [] [] f fd) : FnOk P w K mg base (L2.CX P w) 3 f fd ["letters", "value"] (spM ⟨K, clsOf xnames K, T⟩ m_require_runs 2) := by
  have h : FnOk P w K mg base (L2.CX P w) (2 + 1) f fd ["letters", "value"] (spM ⟨K, clsOf xnames K, T⟩ (fnM N_require_runs.length b_require_runs) ["letters", "value"].length) := fnM_ok (k := 2) (G := ⟨K, clsOf xnames K, T⟩) (N := N_require_runs) (ps := ["letters", "value"]) b_require_runs F sc_require_runs fun cdv A outer s H E hr hu hp g W tk => (mss_one (ms_if (mt_w (mw_or (mt_not (mt_truth rfl (me_isT rfl rfl fx.n_isinstance rfl fx.n_tuple (by decide +kernel) (by decide) (me_var (pv 1))))) (mw_or1 (mt_not (mt_truth rfl (me_callB (c_all rfl) rfl fx.n_all (by decide +kernel) (ma_cons (me_lc (own := [("run", 2)]) rfl sc_require_runs.nd (mi_any rfl (me_var (pv 1))) (blkOk_by (N := N_require_runs) (sc := defScope s_require_runs) (by decide +kernel)) (fun _ _ _ _ _ _ => (mg_name (i := 2) sc_require_runs.nd rfl (by first | exact .inl rfl | exact .inr rfl))) (fun _ _ _ _ _ _ => mts_nil) (fun _ _ _ _ _ _ => (me_call c_is_run hr (by decide) rfl takesF (ma_cons (me_var (pv 0)) (ma_cons (me_var (pv 2)) ma_nil)))) (by decide)) ma_nil))))))) (mss_one (ms_raise rfl tk fx.e_InvalidOperation rfl)) mss_nil))
  exact h
abbrev s_joint : Stmt := top 22
abbrev N_joint : List Str := ["left", "right", "size", "ahead", "behind"]
theorem sc_joint : FnScope N_joint ["left", "right"] (defScope s_joint) := ⟨rfl, rfl, rfl, by decide +kernel, rfl, by decide +kernel, by decide +kernel⟩
theorem ok_joint (fx : Mg K mg)  (F : FunD K "joint" "joint" (defArgs s_joint) (defBody s_joint) (defScope s_joint) [] [] f fd) : FnOk P w K mg base (L2.CX P w) 1 f fd ["left", "right"] (spM ⟨K, clsOf xnames K, T⟩ m_joint 2) := by
  have h : FnOk P w K mg base (L2.CX P w) (0 + 1) f fd ["left", "right"] (spM ⟨K, clsOf xnames K, T⟩ (fnM N_joint.length b_joint) ["left", "right"].length) := fnM_ok (k := 0) (G := ⟨K, clsOf xnames K, T⟩) (N := N_joint) (ps := ["left", "right"]) b_joint F sc_joint fun cdv A outer s H E hr hu hp g W tk => (mss_cons (ms_set (i := 2) sc_joint.nd rfl (by first | exact .inl rfl | exact .inr rfl) me_int) (mss_cons (ms_while 100000 hp (mt_w (mw_and (mt_cmp o_lt (me_var (pv 2)) (me_callB (c_min rfl) rfl fx.n_min (by decide +kernel) (ma_cons (me_lst (ma_cons (me_callB (c_len rfl) rfl fx.n_len (by decide +kernel) (ma_cons (me_var (pv 0)) ma_nil)) (ma_cons (me_callB (c_len rfl) rfl fx.n_len (by decide +kernel) (ma_cons (me_var (pv 1)) ma_nil)) ma_nil))) ma_nil)) (by rfl)) (mw_and1 (mt_cmp (o_eq rfl hu) (me_ix (i_ix rfl) (me_var (pv 0)) (me_bin o_sub (me_un u_neg me_int) (me_var (pv 2)))) (me_tup (ma_cons (me_ix (i_ix rfl) (me_ix (i_ix rfl) (me_var (pv 1)) (me_var (pv 2))) me_int) (ma_cons (me_un u_neg (me_ix (i_ix rfl) (me_ix (i_ix rfl) (me_var (pv 1)) (me_var (pv 2))) me_int)) ma_nil))) (by rfl))))) (mss_one (ms_set (i := 2) sc_joint.nd rfl (by first | exact .inl rfl | exact .inr rfl) (me_bin (o_add rfl) (me_var (pv 2)) me_int)))) (mss_cons (ms_par2 (i := 3) (j := 4) rfl sc_joint.nd rfl rfl (by decide) rfl rfl (fun _ => (me_slice (s_slice rfl) (me_var (pv 0)) mo_none (mo_some (me_bin o_sub (me_callB (c_len rfl) rfl fx.n_len (by decide +kernel) (ma_cons (me_var (pv 0)) ma_nil)) (me_var (pv 2)))))) (fun _ => (me_slice (s_slice rfl) (me_var (pv 1)) (mo_some (me_var (pv 2))) mo_none)) (by rfl)) (mss_cons (ms_if (mt_w (mw_or (mt_cmp (o_eq rfl hu) (me_callB (c_len rfl) rfl fx.n_len (by decide +kernel) (ma_cons (me_var (pv 3)) ma_nil)) me_int (by rfl)) (mw_or (mt_cmp (o_eq rfl hu) (me_callB (c_len rfl) rfl fx.n_len (by decide +kernel) (ma_cons (me_var (pv 4)) ma_nil)) me_int (by rfl)) (mw_or1 (mt_cmp (o_ne rfl hu) (me_ix (i_ix rfl) (me_ix (i_ix rfl) (me_var (pv 3)) (me_un u_neg me_int)) me_int) (me_ix (i_ix rfl) (me_ix (i_ix rfl) (me_var (pv 4)) me_int) me_int) (by rfl)))))) (mss_one (ms_ret (me_lst (ma_star rfl (me_var (pv 3)) (ma_star rfl (me_var (pv 4)) ma_nil))))) mss_nil) (mss_one (ms_ret (me_lst (ma_star rfl (me_slice (s_slice rfl) (me_var (pv 3)) mo_none (mo_some (me_un u_neg me_int))) (ma_cons (me_tup (ma_cons (me_ix (i_ix rfl) (me_ix (i_ix rfl) (me_var (pv 4)) me_int) me_int) (ma_cons (me_bin (o_add rfl) (me_ix (i_ix rfl) (me_ix (i_ix rfl) (me_var (pv 3)) (me_un u_neg me_int)) me_int) (me_ix (i_ix rfl) (me_ix (i_ix rfl) (me_var (pv 4)) me_int) me_int)) ma_nil))) (ma_star rfl (me_slice (s_slice rfl) (me_var (pv 4)) (mo_some me_int) mo_none) ma_nil))))))))))
  exact h
abbrev s_shortened : Stmt := top 23
abbrev N_shortened : List Str := ["runs", "half", "run"]
theorem sc_shortened : FnScope N_shortened ["runs"] (defScope s_shortened) := ⟨rfl, rfl, rfl, by decide +kernel, rfl, by decide +kernel, by decide +kernel⟩
theorem okn_shortened (fx : Mg K mg) (c_joint : Cal P w K mg base ⟨K, clsOf xnames K, T⟩ 1 "joint" 2 m_joint) (F : FunD K "shortened" "shortened" (defArgs s_shortened) (defBody s_shortened) (defScope s_shortened) [] [] f fd) (hm : mg "shortened" = some (.ref f)) (hb : Binds K fd ["runs"] []) : ∀ n : Nat, FnOk P w K mg base (L2.CX P w) (2 + n) f fd ["runs"] (spM ⟨K, clsOf xnames K, T⟩ (mm_shortened n) 1)
  | 0 => noFn rfl
  | n + 1 => by
    have c_shortened : Cal P w K mg base ⟨K, clsOf xnames K, T⟩ (2 + n) "shortened" 1 (mm_shortened n) := Cal.of F (okn_shortened fx c_joint F hm hb n) "shortened" hm hb
    have h : FnOk P w K mg base (L2.CX P w) (2 + n + 1) f fd ["runs"] (spM ⟨K, clsOf xnames K, T⟩ (fnM N_shortened.length (b_shortened (mm_shortened n))) ["runs"].length) := fnM_ok (k := 2 + n) (G := ⟨K, clsOf xnames K, T⟩) (N := N_shortened) (ps := ["runs"]) (b_shortened (mm_shortened n)) F sc_shortened fun cdv A outer s H E hr hu hp g W tk => (mss_cons (ms_if (mt_cmp o_lt (me_callB (c_len rfl) rfl fx.n_len (by decide +kernel) (ma_cons (me_var (pv 0)) ma_nil)) me_int (by rfl)) (mss_one (ms_ret (me_lc (own := [("run", 2)]) rfl sc_shortened.nd (mi_any rfl (me_var (pv 0))) (blkOk_by (N := N_shortened) (sc := defScope s_shortened) (by decide +kernel)) (fun _ _ _ _ _ _ => (mg_name (i := 2) sc_shortened.nd rfl (by first | exact .inl rfl | exact .inr rfl))) (fun _ _ _ _ _ _ => (mts_one (mt_cmp (o_ne rfl hu) (me_ix (i_ix rfl) (me_var (pv 2)) me_int) me_int (by rfl)))) (fun _ _ _ _ _ _ => (me_var (pv 2))) (by decide)))) mss_nil) (mss_cons (ms_set (i := 1) sc_shortened.nd rfl (by first | exact .inl rfl | exact .inr rfl) (me_bin o_fdiv (me_callB (c_len rfl) rfl fx.n_len (by decide +kernel) (ma_cons (me_var (pv 0)) ma_nil)) me_int)) (mss_one (ms_ret (me_call c_joint hr (by omega) rfl tk (ma_cons (me_call c_shortened hr (by omega) rfl tk (ma_cons (me_slice (s_slice rfl) (me_var (pv 0)) mo_none (mo_some (me_var (pv 1)))) ma_nil)) (ma_cons (me_call c_shortened hr (by omega) rfl tk (ma_cons (me_slice (s_slice rfl) (me_var (pv 0)) (mo_some (me_var (pv 1))) mo_none) ma_nil)) ma_nil)))))))
    exact h
theorem ok_shortened (fx : Mg K mg) (c_joint : Cal P w K mg base ⟨K, clsOf xnames K, T⟩ 1 "joint" 2 m_joint) (F : FunD K "shortened" "shortened" (defArgs s_shortened) (defBody s_shortened) (defScope s_shortened) [] [] f fd) (hm : mg "shortened" = some (.ref f)) (hb : Binds K fd ["runs"] []) : FnOk P w K mg base (L2.CX P w) 18 f fd ["runs"] (spM ⟨K, clsOf xnames K, T⟩ m_shortened 1) := okn_shortened fx c_joint F hm hb 16
abbrev s_Word___init__ : Stmt := inCls 27 0
abbrev N_Word___init__ : List Str := ["self", "letters", "runs", "checked"]
theorem sc_Word___init__ : FnScope N_Word___init__ ["self", "letters", "runs", "checked"] (defScope s_Word___init__) := ⟨rfl, rfl, rfl, by decide +kernel, rfl, by decide +kernel, by decide +kernel⟩
theorem ok_Word___init__ (fx : Mg K mg) (c_require_letters : Cal P w K mg base ⟨K, clsOf xnames K, T⟩ 3 "require_letters" 1 m_require_letters) (c_require_runs : Cal P w K mg base ⟨K, clsOf xnames K, T⟩ 3 "require_runs" 2 m_require_runs) (c_shortened : Cal P w K mg base ⟨K, clsOf xnames K, T⟩ 18 "shortened" 1 m_shortened) (F : FunD K "__init__" "Word.__init__" (defArgs s_Word___init__) (defBody s_Word___init__) (defScope s_Word___init__) [] [("checked", .bl true)] f fd) : FnOk P w K mg base (L2.CX P w) 19 f fd ["self", "letters", "runs", "checked"] (spM ⟨K, clsOf xnames K, T⟩ m_Word___init__ 4) := by
  have h : FnOk P w K mg base (L2.CX P w) (18 + 1) f fd ["self", "letters", "runs", "checked"] (spM ⟨K, clsOf xnames K, T⟩ (fnM N_Word___init__.length b_Word___init__) ["self", "letters", "runs", "checked"].length) := fnM_ok (k := 18) (G := ⟨K, clsOf xnames K, T⟩) (N := N_Word___init__) (ps := ["self", "letters", "runs", "checked"]) b_Word___init__ F sc_Word___init__ fun cdv A outer s H E hr hu hp g W tk => (mss_cons (ms_if (mt_truth rfl (me_var (pv 3))) (mss_cons (ms_expr (me_call c_require_letters hr (by decide) rfl tk (ma_cons (me_var (pv 1)) ma_nil))) (mss_one (ms_expr (me_call c_require_runs hr (by decide) rfl tk (ma_cons (me_var (pv 1)) (ma_cons (me_var (pv 2)) ma_nil)))))) mss_nil) (mss_cons (ms_fldSet fx.f_own_letters (pv 0) (me_var (pv 1))) (mss_cons (ms_fldSet fx.f_own_runs (pv 0) (me_callTy (c_tuple rfl) rfl fx.n_tuple (by decide +kernel) (ma_cons (me_call c_shortened hr (by decide) rfl tk (ma_cons (me_var (pv 2)) ma_nil)) ma_nil))) (mss_one (ms_if (mt_cmp o_gt (me_callB (c_len rfl) rfl fx.n_len (by decide +kernel) (ma_cons (me_fld rfl fx.f_own_runs (me_var (pv 0))) ma_nil)) (me_gint rfl fx.i_MAX_RUNS) (by rfl)) (mss_one ms_bad) mss_nil)))))
  exact h
abbrev s_Word_made : Stmt := inCls 27 1
abbrev N_Word_made : List Str := ["letters", "runs"]
theorem sc_Word_made : FnScope N_Word_made ["letters", "runs"] (defScope s_Word_made) := ⟨rfl, rfl, rfl, by decide +kernel, rfl, by decide +kernel, by decide +kernel⟩
theorem ok_Word_made (fx : Mg K mg) (kk_Word___init__ : MkK P w K mg base ⟨K, clsOf xnames K, T⟩ 19 "Word" 4 m_Word___init__ 2 ["checked"]) (F : FunD K "made" "Word.made" (defArgs s_Word_made) (defBody s_Word_made) (defScope s_Word_made) [] [] f fd) : FnOk P w K mg base (L2.CX P w) 21 f fd ["letters", "runs"] (spM ⟨K, clsOf xnames K, T⟩ m_Word_made 2) := by
  have h : FnOk P w K mg base (L2.CX P w) (20 + 1) f fd ["letters", "runs"] (spM ⟨K, clsOf xnames K, T⟩ (fnM N_Word_made.length b_Word_made) ["letters", "runs"].length) := fnM_ok (k := 20) (G := ⟨K, clsOf xnames K, T⟩) (N := N_Word_made) (ps := ["letters", "runs"]) b_Word_made F sc_Word_made fun cdv A outer s H E hr hu hp g W tk => (mss_one (ms_ret (me_mkK kk_Word___init__ hr (by decide) rfl tk (ma_cons (me_var (pv 0)) (ma_cons (me_var (pv 1)) ma_nil)) (mk_cons me_bl mk_nil))))
  exact h
abbrev s_is_text_within : Stmt := top 16
abbrev N_is_text_within : List Str := ["letters", "value", "signs", "sign"]
theorem sc_is_text_within : FnScope N_is_text_within ["letters", "value"] (defScope s_is_text_within) := ⟨rfl, rfl, rfl, by decide +kernel, rfl, by decide +kernel, by decide +kernel⟩
theorem ok_is_text_within (fx : Mg K mg)  (F : FunD K "is_text_within" "is_text_within" (defArgs s_is_text_within) (defBody s_is_text_within) (defScope s_is_text_within) [] [] f fd) : FnOk P w K mg base (L2.CX P w) 1 f fd ["letters", "value"] (spM ⟨K, clsOf xnames K, T⟩ m_is_text_within 2) := by
  have h : FnOk P w K mg base (L2.CX P w) (0 + 1) f fd ["letters", "value"] (spM ⟨K, clsOf xnames K, T⟩ (fnM N_is_text_within.length b_is_text_within) ["letters", "value"].length) := fnM_ok (k := 0) (G := ⟨K, clsOf xnames K, T⟩) (N := N_is_text_within) (ps := ["letters", "value"]) b_is_text_within F sc_is_text_within fun cdv A outer s H E hr hu hp g W tk => (mss_cons (ms_set (i := 2) sc_is_text_within.nd rfl (by first | exact .inl rfl | exact .inr rfl) (me_bin (o_add rfl) (me_var (pv 0)) (me_bm0 rfl PySem.F.plainAttrs_str PySem.F.slot_str_upper PySem.F.type_str_upper m_upper (me_var (pv 0))))) (mss_one (ms_ret (me_and (me_isT rfl rfl fx.n_isinstance rfl fx.n_str (by decide +kernel) (by decide) (me_var (pv 1))) (me_and (me_cmp o_le (me_callB (c_len rfl) rfl fx.n_len (by decide +kernel) (ma_cons (me_var (pv 1)) ma_nil)) (me_gint rfl fx.i_MAX_TEXT) (by rfl)) (me_one (me_callB (c_all rfl) rfl fx.n_all (by decide +kernel) (ma_cons (me_lc (own := [("sign", 3)]) rfl sc_is_text_within.nd (mi_any rfl (me_var (pv 1))) (blkOk_by (N := N_is_text_within) (sc := defScope s_is_text_within) (by decide +kernel)) (fun _ _ _ _ _ _ => (mg_name (i := 3) sc_is_text_within.nd rfl (by first | exact .inl rfl | exact .inr rfl))) (fun _ _ _ _ _ _ => mts_nil) (fun _ _ _ _ _ _ => (me_cmp (o_in rfl) (me_var (pv 3)) (me_var (pv 2)) (by rfl))) (by decide)) ma_nil))))))))
  exact h
abbrev s_require_text : Stmt := top 18
abbrev N_require_text : List Str := ["letters", "value"]
theorem sc_require_text : FnScope N_require_text ["letters", "value"] (defScope s_require_text) := ⟨rfl, rfl, rfl, by decide +kernel, rfl, by decide +kernel, by decide +kernel⟩
theorem ok_require_text (fx : Mg K mg) (c_is_text_within : Cal P w K mg base ⟨K, clsOf xnames K, T⟩ 1 "is_text_within" 2 m_is_text_within) (F : FunD K "require_text" "require_text" (defArgs s_require_text) (defBody s_require_text) (defScope s_require_text) [] [] f fd) : FnOk P w K mg base (L2.CX P w) 2 f fd ["letters", "value"] (spM ⟨K, clsOf xnames K, T⟩ m_require_text 2) := by
  have h : FnOk P w K mg base (L2.CX P w) (1 + 1) f fd ["letters", "value"] (spM ⟨K, clsOf xnames K, T⟩ (fnM N_require_text.length b_require_text) ["letters", "value"].length) := fnM_ok (k := 1) (G := ⟨K, clsOf xnames K, T⟩) (N := N_require_text) (ps := ["letters", "value"]) b_require_text F sc_require_text fun cdv A outer s H E hr hu hp g W tk => (mss_one (ms_if (mt_not (mt_truth rfl (me_call c_is_text_within hr (by decide) rfl tk (ma_cons (me_var (pv 0)) (ma_cons (me_var (pv 1)) ma_nil))))) (mss_one (ms_raise rfl tk fx.e_InvalidText rfl)) mss_nil))
  exact h
abbrev s_Word_of : Stmt := inCls 27 2
abbrev N_Word_of : List Str := ["cls", "letters", "text", "sign"]
theorem sc_Word_of : FnScope N_Word_of ["cls", "letters", "text"] (defScope s_Word_of) := ⟨rfl, rfl, rfl, by decide +kernel, rfl, by decide +kernel, by decide +kernel⟩
theorem ok_Word_of (fx : Mg K mg) (c_require_letters : Cal P w K mg base ⟨K, clsOf xnames K, T⟩ 3 "require_letters" 1 m_require_letters) (c_require_text : Cal P w K mg base ⟨K, clsOf xnames K, T⟩ 2 "require_text" 2 m_require_text) (s__Word_made : StM P w K mg base ⟨K, clsOf xnames K, T⟩ 21 "Word" "made" 2 m_Word_made) (F : FunD K "of" "Word.of" (defArgs s_Word_of) (defBody s_Word_of) (defScope s_Word_of) [] [] f fd) : FnOk P w K mg base (L2.CX P w) 22 f fd ["cls", "letters", "text"] (spM ⟨K, clsOf xnames K, T⟩ m_Word_of 3) := by
  have h : FnOk P w K mg base (L2.CX P w) (21 + 1) f fd ["cls", "letters", "text"] (spM ⟨K, clsOf xnames K, T⟩ (fnM N_Word_of.length b_Word_of) ["cls", "letters", "text"].length) := fnM_ok (k := 21) (G := ⟨K, clsOf xnames K, T⟩) (N := N_Word_of) (ps := ["cls", "letters", "text"]) b_Word_of F sc_Word_of fun cdv A outer s H E hr hu hp g W tk => (mss_cons (ms_expr (me_call c_require_letters hr (by decide) rfl tk (ma_cons (me_var (pv 1)) ma_nil))) (mss_cons (ms_expr (me_call c_require_text hr (by decide) rfl tk (ma_cons (me_var (pv 1)) (ma_cons (me_var (pv 2)) ma_nil)))) (mss_one (ms_ret (me_stat s__Word_made hr (by decide) tk (me_var (pv 0)) (ma_cons (me_var (pv 1)) (ma_cons (me_lc (own := [("sign", 3)]) rfl sc_Word_of.nd (mi_any rfl (me_var (pv 2))) (blkOk_by (N := N_Word_of) (sc := defScope s_Word_of) (by decide +kernel)) (fun _ _ _ _ _ _ => (mg_name (i := 3) sc_Word_of.nd rfl (by first | exact .inl rfl | exact .inr rfl))) (fun _ _ _ _ _ _ => mts_nil) (fun _ _ _ _ _ _ => (me_tup (ma_cons (me_bm0 rfl PySem.F.plainAttrs_str PySem.F.slot_str_lower PySem.F.type_str_lower m_lower (me_var (pv 3))) (ma_cons (me_ifExp (mt_cmp (o_in rfl) (me_var (pv 3)) (me_var (pv 1)) (by rfl)) me_int (me_un u_neg me_int)) ma_nil)))) (by decide)) ma_nil)))))))
  exact h
abbrev s_Word_runs : Stmt := inCls 27 4
abbrev N_Word_runs : List Str := ["self"]
theorem sc_Word_runs : FnScope N_Word_runs ["self"] (defScope s_Word_runs) := ⟨rfl, rfl, rfl, by decide +kernel, rfl, by decide +kernel, by decide +kernel⟩
theorem ok_Word_runs (fx : Mg K mg)  (F : FunD K "runs" "Word.runs" (defArgs s_Word_runs) (defBody s_Word_runs) (defScope s_Word_runs) [] [] f fd) : FnOk P w K mg base (L2.CX P w) 1 f fd ["self"] (spM ⟨K, clsOf xnames K, T⟩ m_Word_runs 1) := by
  have h : FnOk P w K mg base (L2.CX P w) (0 + 1) f fd ["self"] (spM ⟨K, clsOf xnames K, T⟩ (fnM N_Word_runs.length b_Word_runs) ["self"].length) := fnM_ok (k := 0) (G := ⟨K, clsOf xnames K, T⟩) (N := N_Word_runs) (ps := ["self"]) b_Word_runs F sc_Word_runs fun cdv A outer s H E hr hu hp g W tk => (mss_one (ms_ret (me_fld rfl fx.f_own_runs (me_var (pv 0)))))
  exact h
abbrev s_Word_size : Stmt := inCls 27 5
abbrev N_Word_size : List Str := ["self", "letter", "number"]
theorem sc_Word_size : FnScope N_Word_size ["self"] (defScope s_Word_size) := ⟨rfl, rfl, rfl, by decide +kernel, rfl, by decide +kernel, by decide +kernel⟩
theorem ok_Word_size (fx : Mg K mg)  (F : FunD K "size" "Word.size" (defArgs s_Word_size) (defBody s_Word_size) (defScope s_Word_size) [] [] f fd) : FnOk P w K mg base (L2.CX P w) 1 f fd ["self"] (spM ⟨K, clsOf xnames K, T⟩ m_Word_size 1) := by
  have h : FnOk P w K mg base (L2.CX P w) (0 + 1) f fd ["self"] (spM ⟨K, clsOf xnames K, T⟩ (fnM N_Word_size.length b_Word_size) ["self"].length) := fnM_ok (k := 0) (G := ⟨K, clsOf xnames K, T⟩) (N := N_Word_size) (ps := ["self"]) b_Word_size F sc_Word_size fun cdv A outer s H E hr hu hp g W tk => (mss_one (ms_ret (me_callB (c_sum rfl) rfl fx.n_sum (by decide +kernel) (ma_cons (me_lc (own := [("letter", 1), ("number", 2)]) rfl sc_Word_size.nd (mi_any rfl (me_fld rfl fx.f_own_runs (me_var (pv 0)))) (blkOk_by (N := N_Word_size) (sc := defScope s_Word_size) (by decide +kernel)) (fun _ _ _ _ _ _ => (mg_tup rfl rfl (mgs_cons (mg_name (i := 1) sc_Word_size.nd rfl (by first | exact .inl rfl | exact .inr rfl)) (mgs_cons (mg_name (i := 2) sc_Word_size.nd rfl (by first | exact .inl rfl | exact .inr rfl)) mgs_nil)))) (fun _ _ _ _ _ _ => mts_nil) (fun _ _ _ _ _ _ => (me_callB c_abs rfl fx.n_abs (by decide +kernel) (ma_cons (me_var (pv 2)) ma_nil))) (by decide)) ma_nil))))
  exact h
abbrev s_Word_shortest : Stmt := inCls 27 9
abbrev N_Word_shortest : List Str := ["self", "signs", "letter", "number"]
theorem sc_Word_shortest : FnScope N_Word_shortest ["self"] (defScope s_Word_shortest) := ⟨rfl, rfl, rfl, by decide +kernel, rfl, by decide +kernel, by decide +kernel⟩
theorem ok_Word_shortest (fx : Mg K mg) (p_Word_size : Prp P w K mg base ⟨K, clsOf xnames K, T⟩ 1 "Word" "size" m_Word_size) (F : FunD K "shortest" "Word.shortest" (defArgs s_Word_shortest) (defBody s_Word_shortest) (defScope s_Word_shortest) [] [] f fd) : FnOk P w K mg base (L2.CX P w) 3 f fd ["self"] (spM ⟨K, clsOf xnames K, T⟩ m_Word_shortest 1) := by
  have h : FnOk P w K mg base (L2.CX P w) (2 + 1) f fd ["self"] (spM ⟨K, clsOf xnames K, T⟩ (fnM N_Word_shortest.length b_Word_shortest) ["self"].length) := fnM_ok (k := 2) (G := ⟨K, clsOf xnames K, T⟩) (N := N_Word_shortest) (ps := ["self"]) b_Word_shortest F sc_Word_shortest fun cdv A outer s H E hr hu hp g W tk => (mss_cons (ms_if (mt_cmp o_gt (me_propO (j := 1) (prps_cons p_Word_size (by decide) prps_nil) (hr.mono (by decide)) (me_var (pv 0))) (me_gint rfl fx.i_MAX_TEXT) (by rfl)) (mss_one ms_bad) mss_nil) (mss_cons (ms_setLc (i := 1) (own := [("letter", 2), ("number", 3)]) rfl sc_Word_shortest.nd rfl rfl (sw_true rfl rfl rfl (by decide +kernel)) (mi_any rfl (me_fld rfl fx.f_own_runs (me_var (pv 0)))) (blkOk_by (N := N_Word_shortest) (sc := defScope s_Word_shortest) (by decide +kernel)) (fun _ _ _ _ _ _ => (mg_tup rfl rfl (mgs_cons (mg_name (i := 2) sc_Word_shortest.nd rfl (by first | exact .inl rfl | exact .inr rfl)) (mgs_cons (mg_name (i := 3) sc_Word_shortest.nd rfl (by first | exact .inl rfl | exact .inr rfl)) mgs_nil)))) (fun _ _ _ _ _ _ => mts_nil) (fun _ _ _ _ _ _ => (me_ifExp (mt_cmp o_gt (me_var (pv 3)) me_int (by rfl)) (me_bin (o_mul rfl) (me_var (pv 2)) (me_var (pv 3))) (me_bin (o_mul rfl) (me_bm0 rfl PySem.F.plainAttrs_str PySem.F.slot_str_upper PySem.F.type_str_upper m_upper (me_var (pv 2))) (me_un u_neg (me_var (pv 3)))))) (by decide)) (mss_one (ms_ret (me_bm rfl PySem.F.plainAttrs_str PySem.F.slot_str_join PySem.F.type_str_join (m_join rfl) (me_strL (by decide +kernel)) (ma_cons (me_var (pv 1)) ma_nil))))))
  exact h
abbrev s_Word___eq__ : Stmt := inCls 27 16
abbrev N_Word___eq__ : List Str := ["self", "other"]
theorem sc_Word___eq__ : FnScope N_Word___eq__ ["self", "other"] (defScope s_Word___eq__) := ⟨rfl, rfl, rfl, by decide +kernel, rfl, by decide +kernel, by decide +kernel⟩
theorem ok_Word___eq__ (fx : Mg K mg)  (F : FunD K "__eq__" "Word.__eq__" (defArgs s_Word___eq__) (defBody s_Word___eq__) (defScope s_Word___eq__) [] [] f fd) : FnOk P w K mg base (L2.CX P w) 1 f fd ["self", "other"] (spM ⟨K, clsOf xnames K, T⟩ m_Word___eq__ 2) := by
  have h : FnOk P w K mg base (L2.CX P w) (0 + 1) f fd ["self", "other"] (spM ⟨K, clsOf xnames K, T⟩ (fnM N_Word___eq__.length b_Word___eq__) ["self", "other"].length) := fnM_ok (k := 0) (G := ⟨K, clsOf xnames K, T⟩) (N := N_Word___eq__) (ps := ["self", "other"]) b_Word___eq__ F sc_Word___eq__ fun cdv A outer s H E hr hu hp g W tk => (mss_one (ms_ret (me_and (me_isC rfl fx.cf_Word rfl fx.n_isinstance rfl (me_var (pv 1))) (me_and (me_cmp (o_eq rfl hu) (me_fld rfl fx.f_own_letters (me_var (pv 0))) (me_fld rfl fx.f_own_letters (me_var (pv 1))) (by rfl)) (me_one (me_cmp (o_eq rfl hu) (me_fld rfl fx.f_own_runs (me_var (pv 0))) (me_fld rfl fx.f_own_runs (me_var (pv 1))) (by rfl)))))))
  exact h
abbrev s__law_bit : Stmt := top 30
abbrev N__law_bit : List Str := ["tray", "much", "found", "first", "later"]
theorem sc__law_bit : FnScope N__law_bit ["tray", "much"] (defScope s__law_bit) := ⟨rfl, rfl, rfl, by decide +kernel, rfl, by decide +kernel, by decide +kernel⟩
theorem ok__law_bit (fx : Mg K mg)  (F : FunD K "_law_bit" "_law_bit" (defArgs s__law_bit) (defBody s__law_bit) (defScope s__law_bit) [] [] f fd) : FnOk P w K mg base (L2.CX P w) 1 f fd ["tray", "much"] (spM ⟨K, clsOf xnames K, T⟩ m__law_bit 2) := by
  have h : FnOk P w K mg base (L2.CX P w) (0 + 1) f fd ["tray", "much"] (spM ⟨K, clsOf xnames K, T⟩ (fnM N__law_bit.length b__law_bit) ["tray", "much"].length) := fnM_ok (k := 0) (G := ⟨K, clsOf xnames K, T⟩) (N := N__law_bit) (ps := ["tray", "much"]) b__law_bit F sc__law_bit fun cdv A outer s H E hr hu hp g W tk => (mss_cons (ms_if (mt_cmp o_gt (me_ix (i_ix rfl) (me_var (pv 0)) me_int) me_int (by rfl)) (mss_cons (ms_set (i := 2) sc__law_bit.nd rfl (by first | exact .inl rfl | exact .inr rfl) (me_bin o_mod (me_callTy c_int rfl fx.n_int (by decide +kernel) (ma_cons (me_ix (i_ix rfl) (me_var (pv 0)) me_int) ma_nil)) (me_var (pv 1)))) (mss_cons (ms_setIx (pv 0) me_int (me_bin o_fdiv (me_ix (i_ix rfl) (me_var (pv 0)) me_int) (me_var (pv 1)))) (mss_one (ms_ret (me_var (pv 2)))))) mss_nil) (mss_cons (ms_setIx (pv 0) me_int (me_bin (o_add rfl) (me_ix (i_ix rfl) (me_var (pv 0)) me_int) me_int)) (mss_cons (ms_set (i := 3) sc__law_bit.nd rfl (by first | exact .inl rfl | exact .inr rfl) (me_bin o_mod (me_callTy c_int rfl fx.n_int (by decide +kernel) (ma_cons (me_bin (o_add rfl) (me_ix (i_ix rfl) (me_var (pv 0)) me_int) (me_bin (o_mul rfl) me_int (me_ix (i_ix rfl) (me_var (pv 0)) me_int))) ma_nil)) me_int)) (mss_cons (ms_set (i := 4) sc__law_bit.nd rfl (by first | exact .inl rfl | exact .inr rfl) (me_bin (o_add rfl) (me_bin (o_mul rfl) (me_bin o_mod (me_callTy c_int rfl fx.n_int (by decide +kernel) (ma_cons (me_bin (o_mul rfl) (me_var (pv 3)) (me_var (pv 3))) ma_nil)) me_int) (me_var (pv 3))) (me_bin (o_mul rfl) me_int (me_ix (i_ix rfl) (me_var (pv 0)) me_int)))) (mss_one (ms_ret (me_bin o_mod (me_callTy c_int rfl fx.n_int (by decide +kernel) (ma_cons (me_bin o_fdiv (me_bin o_mod (me_callTy c_int rfl fx.n_int (by decide +kernel) (ma_cons (me_var (pv 4)) ma_nil)) me_int) me_int) ma_nil)) (me_var (pv 1)))))))))
  exact h
abbrev s__law_pick : Stmt := top 31
abbrev N__law_pick : List Str := ["tray", "items"]
theorem sc__law_pick : FnScope N__law_pick ["tray", "items"] (defScope s__law_pick) := ⟨rfl, rfl, rfl, by decide +kernel, rfl, by decide +kernel, by decide +kernel⟩
theorem ok__law_pick (fx : Mg K mg) (c__law_bit : Cal P w K mg base ⟨K, clsOf xnames K, T⟩ 1 "_law_bit" 2 m__law_bit) (F : FunD K "_law_pick" "_law_pick" (defArgs s__law_pick) (defBody s__law_pick) (defScope s__law_pick) [] [] f fd) : FnOk P w K mg base (L2.CX P w) 2 f fd ["tray", "items"] (spM ⟨K, clsOf xnames K, T⟩ m__law_pick 2) := by
  have h : FnOk P w K mg base (L2.CX P w) (1 + 1) f fd ["tray", "items"] (spM ⟨K, clsOf xnames K, T⟩ (fnM N__law_pick.length b__law_pick) ["tray", "items"].length) := fnM_ok (k := 1) (G := ⟨K, clsOf xnames K, T⟩) (N := N__law_pick) (ps := ["tray", "items"]) b__law_pick F sc__law_pick fun cdv A outer s H E hr hu hp g W tk => (mss_one (ms_ret (me_ix (i_ix rfl) (me_var (pv 1)) (me_call c__law_bit hr (by decide) rfl tk (ma_cons (me_var (pv 0)) (ma_cons (me_callB (c_len rfl) rfl fx.n_len (by decide +kernel) (ma_cons (me_var (pv 1)) ma_nil)) ma_nil))))))
  exact h
abbrev s__law_cleared : Stmt := top 37
abbrev N__law_cleared : List Str := ["tray", "line", "spots", "at"]
theorem sc__law_cleared : FnScope N__law_cleared ["tray", "line"] (defScope s__law_cleared) := ⟨rfl, rfl, rfl, by decide +kernel, rfl, by decide +kernel, by decide +kernel⟩
theorem ok__law_cleared (fx : Mg K mg) (c__law_pick : Cal P w K mg base ⟨K, clsOf xnames K, T⟩ 2 "_law_pick" 2 m__law_pick) (F : FunD K "_law_cleared" "_law_cleared" (defArgs s__law_cleared) (defBody s__law_cleared) (defScope s__law_cleared) [] [] f fd) : FnOk P w K mg base (L2.CX P w) 3 f fd ["tray", "line"] (spM ⟨K, clsOf xnames K, T⟩ m__law_cleared 2) := by
  have h : FnOk P w K mg base (L2.CX P w) (2 + 1) f fd ["tray", "line"] (spM ⟨K, clsOf xnames K, T⟩ (fnM N__law_cleared.length b__law_cleared) ["tray", "line"].length) := fnM_ok (k := 2) (G := ⟨K, clsOf xnames K, T⟩) (N := N__law_cleared) (ps := ["tray", "line"]) b__law_cleared F sc__law_cleared fun cdv A outer s H E hr hu hp g W tk => (mss_cons (ms_setLc (i := 2) (own := [("at", 3)]) rfl sc__law_cleared.nd rfl rfl (sw_true rfl rfl rfl (by decide +kernel)) (mi_range1 rfl fx.n_range (ma_cons (me_bin o_sub (me_callB (c_len rfl) rfl fx.n_len (by decide +kernel) (ma_cons (me_var (pv 1)) ma_nil)) me_int) ma_nil)) (blkOk_by (N := N__law_cleared) (sc := defScope s__law_cleared) (by decide +kernel)) (fun _ _ _ _ _ _ => (mg_name (i := 3) sc__law_cleared.nd rfl (by first | exact .inl rfl | exact .inr rfl))) (fun _ _ _ _ _ _ => (mts_one (mt_w (mw_and (mt_cmp (o_ne rfl hu) (me_ix (i_ix rfl) (me_var (pv 1)) (me_var (pv 3))) (me_ix (i_ix rfl) (me_var (pv 1)) (me_bin (o_add rfl) (me_var (pv 3)) me_int)) (by rfl)) (mw_and1 (mt_cmp (o_eq rfl hu) (me_bm0 rfl PySem.F.plainAttrs_str PySem.F.slot_str_lower PySem.F.type_str_lower m_lower (me_ix (i_ix rfl) (me_var (pv 1)) (me_var (pv 3)))) (me_bm0 rfl PySem.F.plainAttrs_str PySem.F.slot_str_lower PySem.F.type_str_lower m_lower (me_ix (i_ix rfl) (me_var (pv 1)) (me_bin (o_add rfl) (me_var (pv 3)) me_int))) (by rfl))))))) (fun _ _ _ _ _ _ => (me_var (pv 3))) (by decide)) (mss_cons (ms_while 100000 hp (mt_cmp (o_ne rfl hu) (me_var (pv 2)) (me_lst ma_nil) (by rfl)) (mss_cons (ms_set (i := 3) sc__law_cleared.nd rfl (by first | exact .inl rfl | exact .inr rfl) (me_call c__law_pick hr (by decide) rfl tk (ma_cons (me_var (pv 0)) (ma_cons (me_var (pv 2)) ma_nil)))) (mss_cons (ms_set (i := 1) sc__law_cleared.nd rfl (by first | exact .inl rfl | exact .inr rfl) (me_bin (o_add rfl) (me_slice (s_slice rfl) (me_var (pv 1)) mo_none (mo_some (me_var (pv 3)))) (me_slice (s_slice rfl) (me_var (pv 1)) (mo_some (me_bin (o_add rfl) (me_var (pv 3)) me_int)) mo_none))) (mss_one (ms_setLc (i := 2) (own := [("at", 3)]) rfl sc__law_cleared.nd rfl rfl (sw_true rfl rfl rfl (by decide +kernel)) (mi_range1 rfl fx.n_range (ma_cons (me_bin o_sub (me_callB (c_len rfl) rfl fx.n_len (by decide +kernel) (ma_cons (me_var (pv 1)) ma_nil)) me_int) ma_nil)) (blkOk_by (N := N__law_cleared) (sc := defScope s__law_cleared) (by decide +kernel)) (fun _ _ _ _ _ _ => (mg_name (i := 3) sc__law_cleared.nd rfl (by first | exact .inl rfl | exact .inr rfl))) (fun _ _ _ _ _ _ => (mts_one (mt_w (mw_and (mt_cmp (o_ne rfl hu) (me_ix (i_ix rfl) (me_var (pv 1)) (me_var (pv 3))) (me_ix (i_ix rfl) (me_var (pv 1)) (me_bin (o_add rfl) (me_var (pv 3)) me_int)) (by rfl)) (mw_and1 (mt_cmp (o_eq rfl hu) (me_bm0 rfl PySem.F.plainAttrs_str PySem.F.slot_str_lower PySem.F.type_str_lower m_lower (me_ix (i_ix rfl) (me_var (pv 1)) (me_var (pv 3)))) (me_bm0 rfl PySem.F.plainAttrs_str PySem.F.slot_str_lower PySem.F.type_str_lower m_lower (me_ix (i_ix rfl) (me_var (pv 1)) (me_bin (o_add rfl) (me_var (pv 3)) me_int))) (by rfl))))))) (fun _ _ _ _ _ _ => (me_var (pv 3))) (by decide)))))) (mss_one (ms_ret (me_var (pv 1))))))
  exact h
abbrev s__law_mixed : Stmt := top 33
abbrev N__law_mixed : List Str := ["tray", "signs", "most", "turn"]
theorem sc__law_mixed : FnScope N__law_mixed ["tray", "signs", "most"] (defScope s__law_mixed) := ⟨rfl, rfl, rfl, by decide +kernel, rfl, by decide +kernel, by decide +kernel⟩
theorem ok__law_mixed (fx : Mg K mg) (c__law_bit : Cal P w K mg base ⟨K, clsOf xnames K, T⟩ 1 "_law_bit" 2 m__law_bit) (c__law_pick : Cal P w K mg base ⟨K, clsOf xnames K, T⟩ 2 "_law_pick" 2 m__law_pick) (F : FunD K "_law_mixed" "_law_mixed" (defArgs s__law_mixed) (defBody s__law_mixed) (defScope s__law_mixed) [] [] f fd) : FnOk P w K mg base (L2.CX P w) 3 f fd ["tray", "signs", "most"] (spM ⟨K, clsOf xnames K, T⟩ m__law_mixed 3) := by
  have h : FnOk P w K mg base (L2.CX P w) (2 + 1) f fd ["tray", "signs", "most"] (spM ⟨K, clsOf xnames K, T⟩ (fnM N__law_mixed.length b__law_mixed) ["tray", "signs", "most"].length) := fnM_ok (k := 2) (G := ⟨K, clsOf xnames K, T⟩) (N := N__law_mixed) (ps := ["tray", "signs", "most"]) b__law_mixed F sc__law_mixed fun cdv A outer s H E hr hu hp g W tk => (mss_one (ms_ret (me_bm rfl PySem.F.plainAttrs_str PySem.F.slot_str_join PySem.F.type_str_join (m_join rfl) (me_strL (by decide +kernel)) (ma_cons (me_lc (own := [("turn", 3)]) rfl sc__law_mixed.nd (mi_range1 rfl fx.n_range (ma_cons (me_call c__law_bit hr (by decide) rfl tk (ma_cons (me_var (pv 0)) (ma_cons (me_bin (o_add rfl) (me_var (pv 2)) me_int) ma_nil))) ma_nil)) (blkOk_by (N := N__law_mixed) (sc := defScope s__law_mixed) (by decide +kernel)) (fun _ _ _ _ _ _ => (mg_name (i := 3) sc__law_mixed.nd rfl (by first | exact .inl rfl | exact .inr rfl))) (fun _ _ _ _ _ _ => mts_nil) (fun _ _ _ _ _ _ => (me_call c__law_pick hr (by decide) rfl takesF (ma_cons (me_var (pv 0)) (ma_cons (me_bin (o_add rfl) (me_var (pv 1)) (me_bm0 rfl PySem.F.plainAttrs_str PySem.F.slot_str_upper PySem.F.type_str_upper m_upper (me_var (pv 1)))) ma_nil)))) (by decide)) ma_nil))))
  exact h
abbrev s__law_padded : Stmt := top 36
abbrev N__law_padded : List Str := ["tray", "signs", "line", "turn", "at", "sign", "two"]
theorem sc__law_padded : FnScope N__law_padded ["tray", "signs", "line"] (defScope s__law_padded) := ⟨rfl, rfl, rfl, by decide +kernel, rfl, by decide +kernel, by decide +kernel⟩
theorem ok__law_padded (fx : Mg K mg) (c__law_bit : Cal P w K mg base ⟨K, clsOf xnames K, T⟩ 1 "_law_bit" 2 m__law_bit) (c__law_pick : Cal P w K mg base ⟨K, clsOf xnames K, T⟩ 2 "_law_pick" 2 m__law_pick) (F : FunD K "_law_padded" "_law_padded" (defArgs s__law_padded) (defBody s__law_padded) (defScope s__law_padded) [] [] f fd) : FnOk P w K mg base (L2.CX P w) 3 f fd ["tray", "signs", "line"] (spM ⟨K, clsOf xnames K, T⟩ m__law_padded 3) := by
  have h : FnOk P w K mg base (L2.CX P w) (2 + 1) f fd ["tray", "signs", "line"] (spM ⟨K, clsOf xnames K, T⟩ (fnM N__law_padded.length b__law_padded) ["tray", "signs", "line"].length) := fnM_ok (k := 2) (G := ⟨K, clsOf xnames K, T⟩) (N := N__law_padded) (ps := ["tray", "signs", "line"]) b__law_padded F sc__law_padded fun cdv A outer s H E hr hu hp g W tk => (mss_cons (ms_for hp rfl (mi_range1 rfl fx.n_range (ma_cons (me_call c__law_bit hr (by decide) rfl tk (ma_cons (me_var (pv 0)) (ma_cons me_int ma_nil))) ma_nil)) (mg_name (i := 3) sc__law_padded.nd rfl (by first | exact .inl rfl | exact .inr rfl)) (mss_cons (ms_par2 (i := 4) (j := 5) rfl sc__law_padded.nd rfl rfl (by decide) rfl rfl (fun _ => (me_call c__law_bit hr (by decide) rfl tk (ma_cons (me_var (pv 0)) (ma_cons (me_bin (o_add rfl) (me_callB (c_len rfl) rfl fx.n_len (by decide +kernel) (ma_cons (me_var (pv 2)) ma_nil)) me_int) ma_nil)))) (fun _ => (me_call c__law_pick hr (by decide) rfl tk (ma_cons (me_var (pv 0)) (ma_cons (me_var (pv 1)) ma_nil)))) (by rfl)) (mss_cons (ms_set (i := 6) sc__law_padded.nd rfl (by first | exact .inl rfl | exact .inr rfl) (me_ifExp (mt_cmp (o_eq rfl hu) (me_call c__law_bit hr (by decide) rfl tk (ma_cons (me_var (pv 0)) (ma_cons me_int ma_nil))) me_int (by rfl)) (me_bin (o_add rfl) (me_var (pv 5)) (me_bm0 rfl PySem.F.plainAttrs_str PySem.F.slot_str_upper PySem.F.type_str_upper m_upper (me_var (pv 5)))) (me_bin (o_add rfl) (me_bm0 rfl PySem.F.plainAttrs_str PySem.F.slot_str_upper PySem.F.type_str_upper m_upper (me_var (pv 5))) (me_var (pv 5))))) (mss_one (ms_set (i := 2) sc__law_padded.nd rfl (by first | exact .inl rfl | exact .inr rfl) (me_bin (o_add rfl) (me_bin (o_add rfl) (me_slice (s_slice rfl) (me_var (pv 2)) mo_none (mo_some (me_var (pv 4)))) (me_var (pv 6))) (me_slice (s_slice rfl) (me_var (pv 2)) (mo_some (me_var (pv 4))) mo_none))))))) (mss_one (ms_ret (me_var (pv 2)))))
  exact h
abbrev s__law_put_row : Stmt := top 34
abbrev N__law_put_row : List Str := ["row", "sign", "much", "both"]
theorem sc__law_put_row : FnScope N__law_put_row ["row", "sign", "much"] (defScope s__law_put_row) := ⟨rfl, rfl, rfl, by decide +kernel, rfl, by decide +kernel, by decide +kernel⟩
theorem ok__law_put_row (fx : Mg K mg)  (F : FunD K "_law_put_row" "_law_put_row" (defArgs s__law_put_row) (defBody s__law_put_row) (defScope s__law_put_row) [] [] f fd) : FnOk P w K mg base (L2.CX P w) 1 f fd ["row", "sign", "much"] (spM ⟨K, clsOf xnames K, T⟩ m__law_put_row 3) := by
  have h : FnOk P w K mg base (L2.CX P w) (0 + 1) f fd ["row", "sign", "much"] (spM ⟨K, clsOf xnames K, T⟩ (fnM N__law_put_row.length b__law_put_row) ["row", "sign", "much"].length) := fnM_ok (k := 0) (G := ⟨K, clsOf xnames K, T⟩) (N := N__law_put_row) (ps := ["row", "sign", "much"]) b__law_put_row F sc__law_put_row fun cdv A outer s H E hr hu hp g W tk => (mss_cons (ms_if (mt_cmp (o_eq rfl hu) (me_var (pv 2)) me_int (by rfl)) (mss_one (ms_ret (me_var (pv 0)))) mss_nil) (mss_cons (ms_if (mt_w (mw_or (mt_cmp (o_eq rfl hu) (me_var (pv 0)) (me_tup ma_nil) (by rfl)) (mw_or1 (mt_cmp (o_ne rfl hu) (me_ix (i_ix rfl) (me_ix (i_ix rfl) (me_var (pv 0)) (me_un u_neg me_int)) me_int) (me_var (pv 1)) (by rfl))))) (mss_one (ms_ret (me_bin (o_add rfl) (me_var (pv 0)) (me_tup (ma_cons (me_tup (ma_cons (me_var (pv 1)) (ma_cons (me_var (pv 2)) ma_nil))) ma_nil))))) mss_nil) (mss_cons (ms_set (i := 3) sc__law_put_row.nd rfl (by first | exact .inl rfl | exact .inr rfl) (me_bin (o_add rfl) (me_ix (i_ix rfl) (me_ix (i_ix rfl) (me_var (pv 0)) (me_un u_neg me_int)) me_int) (me_var (pv 2)))) (mss_one (ms_ret (me_ifExp (mt_cmp (o_ne rfl hu) (me_var (pv 3)) me_int (by rfl)) (me_bin (o_add rfl) (me_slice (s_slice rfl) (me_var (pv 0)) mo_none (mo_some (me_un u_neg me_int))) (me_tup (ma_cons (me_tup (ma_cons (me_var (pv 1)) (ma_cons (me_var (pv 3)) ma_nil))) ma_nil))) (me_slice (s_slice rfl) (me_var (pv 0)) mo_none (mo_some (me_un u_neg me_int)))))))))
  exact h
abbrev s__law_row_of : Stmt := top 35
abbrev N__law_row_of : List Str := ["line", "row", "sign"]
theorem sc__law_row_of : FnScope N__law_row_of ["line"] (defScope s__law_row_of) := ⟨rfl, rfl, rfl, by decide +kernel, rfl, by decide +kernel, by decide +kernel⟩
theorem ok__law_row_of (fx : Mg K mg) (c__law_put_row : Cal P w K mg base ⟨K, clsOf xnames K, T⟩ 1 "_law_put_row" 3 m__law_put_row) (F : FunD K "_law_row_of" "_law_row_of" (defArgs s__law_row_of) (defBody s__law_row_of) (defScope s__law_row_of) [] [] f fd) : FnOk P w K mg base (L2.CX P w) 2 f fd ["line"] (spM ⟨K, clsOf xnames K, T⟩ m__law_row_of 1) := by
  have h : FnOk P w K mg base (L2.CX P w) (1 + 1) f fd ["line"] (spM ⟨K, clsOf xnames K, T⟩ (fnM N__law_row_of.length b__law_row_of) ["line"].length) := fnM_ok (k := 1) (G := ⟨K, clsOf xnames K, T⟩) (N := N__law_row_of) (ps := ["line"]) b__law_row_of F sc__law_row_of fun cdv A outer s H E hr hu hp g W tk => (mss_cons (ms_set (i := 1) sc__law_row_of.nd rfl (by first | exact .inl rfl | exact .inr rfl) (me_tup ma_nil)) (mss_cons (ms_for hp rfl (mi_any rfl (me_var (pv 0))) (mg_name (i := 2) sc__law_row_of.nd rfl (by first | exact .inl rfl | exact .inr rfl)) (mss_one (ms_set (i := 1) sc__law_row_of.nd rfl (by first | exact .inl rfl | exact .inr rfl) (me_call c__law_put_row hr (by decide) rfl tk (ma_cons (me_var (pv 1)) (ma_cons (me_bm0 rfl PySem.F.plainAttrs_str PySem.F.slot_str_lower PySem.F.type_str_lower m_lower (me_var (pv 2))) (ma_cons (me_ifExp (mt_cmp (o_eq rfl hu) (me_var (pv 2)) (me_bm0 rfl PySem.F.plainAttrs_str PySem.F.slot_str_lower PySem.F.type_str_lower m_lower (me_var (pv 2))) (by rfl)) me_int (me_un u_neg me_int)) ma_nil))))))) (mss_one (ms_ret (me_var (pv 1))))))
  exact h
abbrev s__law_signs : Stmt := top 32
abbrev N__law_signs : List Str := ["tray"]
theorem sc__law_signs : FnScope N__law_signs ["tray"] (defScope s__law_signs) := ⟨rfl, rfl, rfl, by decide +kernel, rfl, by decide +kernel, by decide +kernel⟩
theorem ok__law_signs (fx : Mg K mg) (c__law_pick : Cal P w K mg base ⟨K, clsOf xnames K, T⟩ 2 "_law_pick" 2 m__law_pick) (F : FunD K "_law_signs" "_law_signs" (defArgs s__law_signs) (defBody s__law_signs) (defScope s__law_signs) [] [] f fd) : FnOk P w K mg base (L2.CX P w) 3 f fd ["tray"] (spM ⟨K, clsOf xnames K, T⟩ m__law_signs 1) := by
  have h : FnOk P w K mg base (L2.CX P w) (2 + 1) f fd ["tray"] (spM ⟨K, clsOf xnames K, T⟩ (fnM N__law_signs.length b__law_signs) ["tray"].length) := fnM_ok (k := 2) (G := ⟨K, clsOf xnames K, T⟩) (N := N__law_signs) (ps := ["tray"]) b__law_signs F sc__law_signs fun cdv A outer s H E hr hu hp g W tk => (mss_one (ms_ret (me_call c__law_pick hr (by decide) rfl tk (ma_cons (me_var (pv 0)) (ma_cons (me_lst (ma_cons (me_strL (by decide +kernel)) (ma_cons (me_strL (by decide +kernel)) (ma_cons (me_strL (by decide +kernel)) (ma_cons (me_strL (by decide +kernel)) (ma_cons (me_strL (by decide +kernel)) (ma_cons (me_strL (by decide +kernel)) ma_nil))))))) ma_nil)))))
  exact h
abbrev s__law_right : Stmt := top 38
abbrev N__law_right : List Str := ["tray", "signs", "line", "made", "short", "padded", "at", "bent", "near"]
theorem sc__law_right : FnScope N__law_right ["tray"] (defScope s__law_right) := ⟨rfl, rfl, rfl, by decide +kernel, rfl, by decide +kernel, by decide +kernel⟩
theorem ok__law_right (fx : Mg K mg) (c__law_bit : Cal P w K mg base ⟨K, clsOf xnames K, T⟩ 1 "_law_bit" 2 m__law_bit) (c__law_cleared : Cal P w K mg base ⟨K, clsOf xnames K, T⟩ 3 "_law_cleared" 2 m__law_cleared) (c__law_mixed : Cal P w K mg base ⟨K, clsOf xnames K, T⟩ 3 "_law_mixed" 3 m__law_mixed) (c__law_padded : Cal P w K mg base ⟨K, clsOf xnames K, T⟩ 3 "_law_padded" 3 m__law_padded) (c__law_pick : Cal P w K mg base ⟨K, clsOf xnames K, T⟩ 2 "_law_pick" 2 m__law_pick) (c__law_row_of : Cal P w K mg base ⟨K, clsOf xnames K, T⟩ 2 "_law_row_of" 1 m__law_row_of) (c__law_signs : Cal P w K mg base ⟨K, clsOf xnames K, T⟩ 3 "_law_signs" 1 m__law_signs) (d_Word___eq__ : Dun P w K mg base ⟨K, clsOf xnames K, T⟩ 1 "Word" "__eq__" 2 m_Word___eq__) (d_Word_shortest : Dun P w K mg base ⟨K, clsOf xnames K, T⟩ 3 "Word" "shortest" 1 m_Word_shortest) (k_Word___init__ : MkM P w K mg base ⟨K, clsOf xnames K, T⟩ 19 "Word" 4 m_Word___init__ [.bl true]) (m__Word_of : CmM P w K mg base ⟨K, clsOf xnames K, T⟩ 22 "Word" "of" 3 m_Word_of) (p_Word_runs : Prp P w K mg base ⟨K, clsOf xnames K, T⟩ 1 "Word" "runs" m_Word_runs) (p_Word_size : Prp P w K mg base ⟨K, clsOf xnames K, T⟩ 1 "Word" "size" m_Word_size) (F : FunD K "_law_right" "_law_right" (defArgs s__law_right) (defBody s__law_right) (defScope s__law_right) [] [] f fd) : FnOk P w K mg base (L2.CX P w) 23 f fd ["tray"] (spM ⟨K, clsOf xnames K, T⟩ m__law_right 1) := by
  have h : FnOk P w K mg base (L2.CX P w) (22 + 1) f fd ["tray"] (spM ⟨K, clsOf xnames K, T⟩ (fnM N__law_right.length b__law_right) ["tray"].length) := fnM_ok (k := 22) (G := ⟨K, clsOf xnames K, T⟩) (N := N__law_right) (ps := ["tray"]) b__law_right F sc__law_right fun cdv A outer s H E hr hu hp g W tk => (mss_cons (ms_set (i := 1) sc__law_right.nd rfl (by first | exact .inl rfl | exact .inr rfl) (me_call c__law_signs hr (by decide) rfl tk (ma_cons (me_var (pv 0)) ma_nil))) (mss_cons (ms_set (i := 2) sc__law_right.nd rfl (by first | exact .inl rfl | exact .inr rfl) (me_call c__law_mixed hr (by decide) rfl tk (ma_cons (me_var (pv 0)) (ma_cons (me_var (pv 1)) (ma_cons me_int ma_nil))))) (mss_cons (ms_par2 (i := 3) (j := 4) rfl sc__law_right.nd rfl rfl (by decide) rfl rfl (fun _ => (me_clsm m__Word_of hr (by decide) tk (me_cls fx.cf_Word rfl) (ma_cons (me_var (pv 1)) (ma_cons (me_var (pv 2)) ma_nil)))) (fun _ => (me_call c__law_cleared hr (by decide) rfl tk (ma_cons (me_var (pv 0)) (ma_cons (me_var (pv 2)) ma_nil)))) (by rfl)) (mss_cons (ms_if (mt_w (mw_or (mt_cmp (o_ne rfl hu) (me_propO (j := 1) (prps_cons p_Word_runs (by decide) prps_nil) (hr.mono (by decide)) (me_var (pv 3))) (me_call c__law_row_of hr (by decide) rfl tk (ma_cons (me_var (pv 2)) ma_nil)) (by rfl)) (mw_or (mt_cmp (o_ne rfl hu) (me_methO0 (j := 3) (duns_cons d_Word_shortest (by decide) duns_nil) (hr.mono (by decide)) tk (me_var (pv 3))) (me_var (pv 4)) (by rfl)) (mw_or (mt_cmp (o_ne rfl hu) (me_propO (j := 1) (prps_cons p_Word_size (by decide) prps_nil) (hr.mono (by decide)) (me_var (pv 3))) (me_callB (c_len rfl) rfl fx.n_len (by decide +kernel) (ma_cons (me_var (pv 4)) ma_nil)) (by rfl)) (mw_or1 (mt_cmp (o_ne rfl hu) (me_call c__law_cleared hr (by decide) rfl tk (ma_cons (me_var (pv 0)) (ma_cons (me_var (pv 2)) ma_nil))) (me_var (pv 4)) (by rfl))))))) (mss_one (ms_ret me_bl)) mss_nil) (mss_cons (ms_if (mt_w (mw_or (mt_neO rfl hu (j := 1) (duns_cons d_Word___eq__ (by decide) duns_nil) fx.eqf (hr.mono (by decide)) tk (me_clsm m__Word_of hr (by decide) tk (me_cls fx.cf_Word rfl) (ma_cons (me_var (pv 1)) (ma_cons (me_var (pv 4)) ma_nil))) (me_var (pv 3)) (by rfl)) (mw_or1 (mt_neO rfl hu (j := 1) (duns_cons d_Word___eq__ (by decide) duns_nil) fx.eqf (hr.mono (by decide)) tk (me_mk k_Word___init__ hr (by decide) rfl tk (ma_cons (me_var (pv 1)) (ma_cons (me_call c__law_row_of hr (by decide) rfl tk (ma_cons (me_var (pv 4)) ma_nil)) ma_nil))) (me_var (pv 3)) (by rfl))))) (mss_one (ms_ret me_bl)) mss_nil) (mss_cons (ms_set (i := 5) sc__law_right.nd rfl (by first | exact .inl rfl | exact .inr rfl) (me_call c__law_padded hr (by decide) rfl tk (ma_cons (me_var (pv 0)) (ma_cons (me_var (pv 1)) (ma_cons (me_var (pv 2)) ma_nil))))) (mss_cons (ms_set (i := 6) sc__law_right.nd rfl (by first | exact .inl rfl | exact .inr rfl) (me_call c__law_bit hr (by decide) rfl tk (ma_cons (me_var (pv 0)) (ma_cons (me_bin (o_add rfl) (me_callB (c_len rfl) rfl fx.n_len (by decide +kernel) (ma_cons (me_var (pv 2)) ma_nil)) me_int) ma_nil)))) (mss_cons (ms_set (i := 7) sc__law_right.nd rfl (by first | exact .inl rfl | exact .inr rfl) (me_bin (o_add rfl) (me_bin (o_add rfl) (me_slice (s_slice rfl) (me_var (pv 2)) mo_none (mo_some (me_var (pv 6)))) (me_call c__law_pick hr (by decide) rfl tk (ma_cons (me_var (pv 0)) (ma_cons (me_bin (o_add rfl) (me_var (pv 1)) (me_bm0 rfl PySem.F.plainAttrs_str PySem.F.slot_str_upper PySem.F.type_str_upper m_upper (me_var (pv 1)))) ma_nil)))) (me_slice (s_slice rfl) (me_var (pv 2)) (mo_some (me_bin (o_add rfl) (me_var (pv 6)) me_int)) mo_none))) (mss_cons (ms_for hp rfl (mi_any rfl (me_tup (ma_cons (me_var (pv 5)) (ma_cons (me_var (pv 7)) (ma_cons (me_var (pv 4)) (ma_cons (me_back rfl (me_var (pv 2))) (ma_cons (me_call c__law_mixed hr (by decide) rfl tk (ma_cons (me_var (pv 0)) (ma_cons (me_var (pv 1)) (ma_cons me_int ma_nil)))) ma_nil))))))) (mg_name (i := 8) sc__law_right.nd rfl (by first | exact .inl rfl | exact .inr rfl)) (mss_one (ms_if (mt_cmp (o_ne rfl hu) (me_eqO rfl hu (j := 1) (duns_cons d_Word___eq__ (by decide) duns_nil) fx.eqf (hr.mono (by decide)) tk (me_clsm m__Word_of hr (by decide) tk (me_cls fx.cf_Word rfl) (ma_cons (me_var (pv 1)) (ma_cons (me_var (pv 8)) ma_nil))) (me_var (pv 3)) (by rfl)) (me_cmp (o_eq rfl hu) (me_call c__law_cleared hr (by decide) rfl tk (ma_cons (me_var (pv 0)) (ma_cons (me_var (pv 8)) ma_nil))) (me_var (pv 4)) (by rfl)) (by rfl)) (mss_one (ms_ret me_bl)) mss_nil))) (mss_one (ms_ret (me_eqO rfl hu (j := 1) (duns_cons d_Word___eq__ (by decide) duns_nil) fx.eqf (hr.mono (by decide)) tk (me_clsm m__Word_of hr (by decide) tk (me_cls fx.cf_Word rfl) (ma_cons (me_var (pv 1)) (ma_cons (me_var (pv 5)) ma_nil))) (me_var (pv 3)) (by rfl)))))))))))))
  exact h
abbrev s__law_tray : Stmt := top 29
abbrev N__law_tray : List Str := ["script", "at", "cell", "great", "blend"]
theorem sc__law_tray : FnScope N__law_tray ["script", "at"] (defScope s__law_tray) := ⟨rfl, rfl, rfl, by decide +kernel, rfl, by decide +kernel, by decide +kernel⟩
theorem ok__law_tray (fx : Mg K mg)  (F : FunD K "_law_tray" "_law_tray" (defArgs s__law_tray) (defBody s__law_tray) (defScope s__law_tray) [] [] f fd) : FnOk P w K mg base (L2.CX P w) 1 f fd ["script", "at"] (spM ⟨K, clsOf xnames K, T⟩ m__law_tray 2) := by
  have h : FnOk P w K mg base (L2.CX P w) (0 + 1) f fd ["script", "at"] (spM ⟨K, clsOf xnames K, T⟩ (fnM N__law_tray.length b__law_tray) ["script", "at"].length) := fnM_ok (k := 0) (G := ⟨K, clsOf xnames K, T⟩) (N := N__law_tray) (ps := ["script", "at"]) b__law_tray F sc__law_tray fun cdv A outer s H E hr hu hp g W tk => (mss_cons (ms_set (i := 2) sc__law_tray.nd rfl (by first | exact .inl rfl | exact .inr rfl) (me_ifExp (mt_cmp o_lt (me_var (pv 1)) (me_callB (c_len rfl) rfl fx.n_len (by decide +kernel) (ma_cons (me_var (pv 0)) ma_nil)) (by rfl)) (me_ix (i_ix rfl) (me_var (pv 0)) (me_var (pv 1))) (me_bin (o_add rfl) (me_bin (o_mul rfl) me_int (me_var (pv 1))) me_int))) (mss_cons (ms_set (i := 3) sc__law_tray.nd rfl (by first | exact .inl rfl | exact .inr rfl) (me_bin o_mod (me_callTy c_int rfl fx.n_int (by decide +kernel) (ma_cons (me_callB c_abs rfl fx.n_abs (by decide +kernel) (ma_cons (me_var (pv 2)) ma_nil)) ma_nil)) (me_bin o_pow (me_bin o_pow me_int me_int) me_int))) (mss_cons (ms_set (i := 4) sc__law_tray.nd rfl (by first | exact .inl rfl | exact .inr rfl) (me_bin (o_add rfl) (me_bin (o_add rfl) (me_bin (o_add rfl) (me_bin (o_mul rfl) (me_bin o_mod (me_callTy c_int rfl fx.n_int (by decide +kernel) (ma_cons (me_var (pv 3)) ma_nil)) me_int) me_int) (me_bin (o_mul rfl) me_int (me_var (pv 1)))) (me_bin (o_mul rfl) me_int (me_callTy c_int rfl fx.n_int (by decide +kernel) (ma_cons (me_cmp o_lt (me_var (pv 2)) me_int (by rfl)) ma_nil)))) me_int)) (mss_one (ms_ret (me_lst (ma_cons (me_callB (c_max rfl) rfl fx.n_max (by decide +kernel) (ma_cons me_int (ma_cons (me_bin o_sub (me_var (pv 3)) (me_bin o_pow me_int me_int)) ma_nil))) (ma_cons (me_bin o_mod (me_callTy c_int rfl fx.n_int (by decide +kernel) (ma_cons (me_var (pv 4)) ma_nil)) me_int) (ma_cons me_int ma_nil)))))))))
  exact h
abbrev s_law : Stmt := top 39
abbrev N_law : List Str := ["script", "at", "tray", "turn", "told"]
theorem sc_law : FnScope N_law ["script"] (defScope s_law) := ⟨rfl, rfl, rfl, by decide +kernel, rfl, by decide +kernel, by decide +kernel⟩
theorem ok_law (fx : Mg K mg) (c__law_right : Cal P w K mg base ⟨K, clsOf xnames K, T⟩ 23 "_law_right" 1 m__law_right) (c__law_tray : Cal P w K mg base ⟨K, clsOf xnames K, T⟩ 1 "_law_tray" 2 m__law_tray) (d_Word_shortest : Dun P w K mg base ⟨K, clsOf xnames K, T⟩ 3 "Word" "shortest" 1 m_Word_shortest) (m__Word_of : CmM P w K mg base ⟨K, clsOf xnames K, T⟩ 22 "Word" "of" 3 m_Word_of) (p_Word_runs : Prp P w K mg base ⟨K, clsOf xnames K, T⟩ 1 "Word" "runs" m_Word_runs) (p_Word_size : Prp P w K mg base ⟨K, clsOf xnames K, T⟩ 1 "Word" "size" m_Word_size) (F : FunD K "law" "law" (defArgs s_law) (defBody s_law) (defScope s_law) [] [] f fd) : FnOk P w K mg base (L2.CX P w) 24 f fd ["script"] (spM ⟨K, clsOf xnames K, T⟩ m_law 1) := by
  have h : FnOk P w K mg base (L2.CX P w) (23 + 1) f fd ["script"] (spM ⟨K, clsOf xnames K, T⟩ (fnM N_law.length b_law) ["script"].length) := fnM_ok (k := 23) (G := ⟨K, clsOf xnames K, T⟩) (N := N_law) (ps := ["script"]) b_law F sc_law fun cdv A outer s H E hr hu hp g W tk => (mss_cons (ms_for hp rfl (mi_range1 rfl fx.n_range (ma_cons (me_callB (c_max rfl) rfl fx.n_max (by decide +kernel) (ma_cons me_int (ma_cons (me_callB (c_min rfl) rfl fx.n_min (by decide +kernel) (ma_cons me_int (ma_cons (me_callB (c_len rfl) rfl fx.n_len (by decide +kernel) (ma_cons (me_var (pv 0)) ma_nil)) ma_nil))) ma_nil))) ma_nil)) (mg_name (i := 1) sc_law.nd rfl (by first | exact .inl rfl | exact .inr rfl)) (mss_cons (ms_set (i := 2) sc_law.nd rfl (by first | exact .inl rfl | exact .inr rfl) (me_call c__law_tray hr (by decide) rfl tk (ma_cons (me_var (pv 0)) (ma_cons (me_var (pv 1)) ma_nil)))) (mss_one (ms_for hp rfl (mi_range1 rfl fx.n_range (ma_cons me_int ma_nil)) (mg_name (i := 3) sc_law.nd rfl (by first | exact .inl rfl | exact .inr rfl)) (mss_one (ms_if (mt_not (mt_truth rfl (me_call c__law_right hr (by decide) rfl tk (ma_cons (me_var (pv 2)) ma_nil)))) (mss_one (ms_ret me_bl)) mss_nil)))))) (mss_cons (ms_set (i := 4) sc_law.nd rfl (by first | exact .inl rfl | exact .inr rfl) (me_lst (ma_cons (me_methO0 (j := 3) (duns_cons d_Word_shortest (by decide) duns_nil) (hr.mono (by decide)) tk (me_clsm m__Word_of hr (by decide) tk (me_cls fx.cf_Word rfl) (ma_cons (me_strL (by decide +kernel)) (ma_cons (me_strL (by decide +kernel)) ma_nil)))) (ma_cons (me_propO (j := 1) (prps_cons p_Word_runs (by decide) prps_nil) (hr.mono (by decide)) (me_clsm m__Word_of hr (by decide) tk (me_cls fx.cf_Word rfl) (ma_cons (me_strL (by decide +kernel)) (ma_cons (me_strL (by decide +kernel)) ma_nil)))) (ma_cons (me_propO (j := 1) (prps_cons p_Word_size (by decide) prps_nil) (hr.mono (by decide)) (me_clsm m__Word_of hr (by decide) tk (me_cls fx.cf_Word rfl) (ma_cons (me_strL (by decide +kernel)) (ma_cons (me_strL (by decide +kernel)) ma_nil)))) (ma_cons (me_propO (j := 1) (prps_cons p_Word_runs (by decide) prps_nil) (hr.mono (by decide)) (me_clsm m__Word_of hr (by decide) tk (me_cls fx.cf_Word rfl) (ma_cons (me_strL (by decide +kernel)) (ma_cons (me_strL (by decide +kernel)) ma_nil)))) ma_nil)))))) (mss_one (ms_ret (me_and (me_cmp (o_eq rfl hu) (me_var (pv 4)) (me_lst (ma_cons (me_strL (by decide +kernel)) (ma_cons (me_tup ma_nil) (ma_cons me_int (ma_cons (me_tup (ma_cons (me_tup (ma_cons (me_strL (by decide +kernel)) (ma_cons me_int ma_nil))) ma_nil)) ma_nil))))) (by rfl)) (me_one (me_cmp (o_eq rfl hu) (me_propO (j := 1) (prps_cons p_Word_runs (by decide) prps_nil) (hr.mono (by decide)) (me_clsm m__Word_of hr (by decide) tk (me_cls fx.cf_Word rfl) (ma_cons (me_strL (by decide +kernel)) (ma_cons (me_bin (o_mul rfl) (me_strL (by decide +kernel)) me_int) ma_nil)))) (me_tup (ma_cons (me_tup (ma_cons (me_strL (by decide +kernel)) (ma_cons (me_un u_neg me_int) ma_nil))) ma_nil)) (by rfl))))))))
  exact h
end
def ds : List He5.DefA := [⟨fun K => He.ga K "are_small", "are_small", "are_small", defArgs s_are_small, defBody s_are_small, defScope s_are_small, [], []⟩,
  ⟨fun K => He.ga K "is_letters", "is_letters", "is_letters", defArgs s_is_letters, defBody s_is_letters, defScope s_is_letters, [], []⟩,
  ⟨fun K => He.ga K "require_letters", "require_letters", "require_letters", defArgs s_require_letters, defBody s_require_letters, defScope s_require_letters, [], []⟩,
  ⟨fun K => He.ga K "is_integer", "is_integer", "is_integer", defArgs s_is_integer, defBody s_is_integer, defScope s_is_integer, [], []⟩,
  ⟨fun K => He.ga K "is_run", "is_run", "is_run", defArgs s_is_run, defBody s_is_run, defScope s_is_run, [], []⟩,
  ⟨fun K => He.ga K "require_runs", "require_runs", "require_runs", defArgs s_require_runs, defBody s_require_runs, defScope s_require_runs, [], []⟩,
  ⟨fun K => He.ga K "joint", "joint", "joint", defArgs s_joint, defBody s_joint, defScope s_joint, [], []⟩,
  ⟨fun K => He.ga K "shortened", "shortened", "shortened", defArgs s_shortened, defBody s_shortened, defScope s_shortened, [], []⟩,
  ⟨fun K => He.ma K (He.ga K "Word") "__init__", "__init__", "Word.__init__", defArgs s_Word___init__, defBody s_Word___init__, defScope s_Word___init__, [], [("checked", .bl true)]⟩,
  ⟨fun K => He5.wf K (He.ga K "Word") "staticmethod" "made", "made", "Word.made", defArgs s_Word_made, defBody s_Word_made, defScope s_Word_made, [], []⟩,
  ⟨fun K => He.ga K "is_text_within", "is_text_within", "is_text_within", defArgs s_is_text_within, defBody s_is_text_within, defScope s_is_text_within, [], []⟩,
  ⟨fun K => He.ga K "require_text", "require_text", "require_text", defArgs s_require_text, defBody s_require_text, defScope s_require_text, [], []⟩,
  ⟨fun K => He5.wf K (He.ga K "Word") "classmethod" "of", "of", "Word.of", defArgs s_Word_of, defBody s_Word_of, defScope s_Word_of, [], []⟩,
  ⟨fun K => pgA K "Word" "runs", "runs", "Word.runs", defArgs s_Word_runs, defBody s_Word_runs, defScope s_Word_runs, [], []⟩,
  ⟨fun K => pgA K "Word" "size", "size", "Word.size", defArgs s_Word_size, defBody s_Word_size, defScope s_Word_size, [], []⟩,
  ⟨fun K => He.ma K (He.ga K "Word") "shortest", "shortest", "Word.shortest", defArgs s_Word_shortest, defBody s_Word_shortest, defScope s_Word_shortest, [], []⟩,
  ⟨fun K => He.ma K (He.ga K "Word") "__eq__", "__eq__", "Word.__eq__", defArgs s_Word___eq__, defBody s_Word___eq__, defScope s_Word___eq__, [], []⟩,
  ⟨fun K => He.ga K "_law_bit", "_law_bit", "_law_bit", defArgs s__law_bit, defBody s__law_bit, defScope s__law_bit, [], []⟩,
  ⟨fun K => He.ga K "_law_pick", "_law_pick", "_law_pick", defArgs s__law_pick, defBody s__law_pick, defScope s__law_pick, [], []⟩,
  ⟨fun K => He.ga K "_law_cleared", "_law_cleared", "_law_cleared", defArgs s__law_cleared, defBody s__law_cleared, defScope s__law_cleared, [], []⟩,
  ⟨fun K => He.ga K "_law_mixed", "_law_mixed", "_law_mixed", defArgs s__law_mixed, defBody s__law_mixed, defScope s__law_mixed, [], []⟩,
  ⟨fun K => He.ga K "_law_padded", "_law_padded", "_law_padded", defArgs s__law_padded, defBody s__law_padded, defScope s__law_padded, [], []⟩,
  ⟨fun K => He.ga K "_law_put_row", "_law_put_row", "_law_put_row", defArgs s__law_put_row, defBody s__law_put_row, defScope s__law_put_row, [], []⟩,
  ⟨fun K => He.ga K "_law_row_of", "_law_row_of", "_law_row_of", defArgs s__law_row_of, defBody s__law_row_of, defScope s__law_row_of, [], []⟩,
  ⟨fun K => He.ga K "_law_signs", "_law_signs", "_law_signs", defArgs s__law_signs, defBody s__law_signs, defScope s__law_signs, [], []⟩,
  ⟨fun K => He.ga K "_law_right", "_law_right", "_law_right", defArgs s__law_right, defBody s__law_right, defScope s__law_right, [], []⟩,
  ⟨fun K => He.ga K "_law_tray", "_law_tray", "_law_tray", defArgs s__law_tray, defBody s__law_tray, defScope s__law_tray, [], []⟩,
  ⟨fun K => He.ga K "law", "law", "law", defArgs s_law, defBody s_law, defScope s_law, [], []⟩]
theorem all0 {α : Type} {P : α → Prop} : ∀ x ∈ ([] : List α), P x := fun x h => by cases h
theorem all1 {α : Type} {P : α → Prop} {a : α} {l : List α} (h : P a) (t : ∀ x ∈ l, P x) : ∀ x ∈ a :: l, P x := fun x hx => by
  rcases List.mem_cons.mp hx with rfl | z
  · exact h
  · exact t x z
def fa : List (PySem.W.Frag → Bool) := [fun K => (He.Fa.free "abs").ok K,
  fun K => (He.Fa.free "all").ok K,
  fun K => (He.Fa.free "bool").ok K,
  fun K => (He.Fa.free "int").ok K,
  fun K => (He.Fa.free "isinstance").ok K,
  fun K => (He.Fa.free "len").ok K,
  fun K => (He.Fa.free "max").ok K,
  fun K => (He.Fa.free "min").ok K,
  fun K => (He.Fa.free "range").ok K,
  fun K => (He.Fa.free "str").ok K,
  fun K => (He.Fa.free "sum").ok K,
  fun K => (He.Fa.free "tuple").ok K,
  fun K => (He.Fa.free "zip").ok K,
  fun K => (He.Fa.int "GREATEST" 99999999999999999999999999999999999999999999999999999999999999999999999999999999999999999999999999999999999999999999999999999999999999999999999999999999999999999999999999999999999999999999999999999999).ok K,
  fun K => (He.Fa.int "MAX_RUNS" 200).ok K,
  fun K => (He.Fa.int "MAX_TEXT" 4000).ok K,
  fun K => (He.Fa.int "MOST_LETTERS" 3).ok K,
  fun K => (He.Fa.glo "InvalidLetters").ok K,
  fun K => (He.Fa.exc "InvalidLetters").ok K,
  fun K => (He.Fa.glo "InvalidOperation").ok K,
  fun K => (He.Fa.exc "InvalidOperation").ok K,
  fun K => (He.Fa.glo "InvalidText").ok K,
  fun K => (He.Fa.exc "InvalidText").ok K,
  fCls ["Word"] "Word",
  fFld "Word" "own_letters",
  fFld "Word" "own_runs",
  fNe "Word",
  fun K => (He.Fa.glo "are_small").ok K,
  fun K => (He.Fa.glo "is_letters").ok K,
  fun K => (He.Fa.glo "require_letters").ok K,
  fun K => (He.Fa.glo "is_integer").ok K,
  fun K => (He.Fa.glo "is_run").ok K,
  fun K => (He.Fa.glo "require_runs").ok K,
  fun K => (He.Fa.glo "joint").ok K,
  fun K => (He.Fa.glo "shortened").ok K,
  fun K => (He.Fa.glo "Word").ok K,
  fMkr "Word",
  fSta "Word" "made",
  fun K => (He.Fa.glo "is_text_within").ok K,
  fun K => (He.Fa.glo "require_text").ok K,
  fClm "Word" "of",
  fPrp "Word" "runs",
  fPrp "Word" "size",
  fMet "Word" "shortest",
  fSi "Word",
  fMet "Word" "__eq__",
  fun K => (He.Fa.glo "_law_bit").ok K,
  fun K => (He.Fa.glo "_law_pick").ok K,
  fun K => (He.Fa.glo "_law_cleared").ok K,
  fun K => (He.Fa.glo "_law_mixed").ok K,
  fun K => (He.Fa.glo "_law_padded").ok K,
  fun K => (He.Fa.glo "_law_put_row").ok K,
  fun K => (He.Fa.glo "_law_row_of").ok K,
  fun K => (He.Fa.glo "_law_signs").ok K,
  fun K => (He.Fa.glo "_law_right").ok K,
  fun K => (He.Fa.glo "_law_tray").ok K,
  fun K => (He.Fa.glo "law").ok K]
theorem facts {P : Program} {w : World} {K : PySem.W.Frag} {h : Heap} {mg : Str → Option Value} {f : Addr} {T : List (Addr × Str)} (X : K.In h) (G : h.Ns mainGlobals mg) (hfa : mg ("law" : Str) = some (.ref f)) (c : SaysM (allF fa) ds [] h K) :
    ∃ fd : FuncData, (∀ (s : Shared) (v : Value), BindsTo s fd ⟨[v], []⟩ [("script", v)]) ∧ ∀ base : Heap, FnOk P w K mg base (L2.CX P w) 24 f fd ["script"] (spM ⟨K, clsOf xnames K, T⟩ m_law 1) := by
  have fx : Mg K mg := by
    have cf_Word : ClsF K mg (clsOf xnames K) ["Word"] "Word" := clsF_of X G (by decide +kernel) (by decide +kernel) (allF_at c.b 23 rfl)
    exact ⟨He.free_ok X G (x := "abs") (allF_at c.b 0 rfl), He.free_ok X G (x := "all") (allF_at c.b 1 rfl), He.free_ok X G (x := "bool") (allF_at c.b 2 rfl), He.free_ok X G (x := "int") (allF_at c.b 3 rfl), He.free_ok X G (x := "isinstance") (allF_at c.b 4 rfl), He.free_ok X G (x := "len") (allF_at c.b 5 rfl), He.free_ok X G (x := "max") (allF_at c.b 6 rfl), He.free_ok X G (x := "min") (allF_at c.b 7 rfl), He.free_ok X G (x := "range") (allF_at c.b 8 rfl), He.free_ok X G (x := "str") (allF_at c.b 9 rfl), He.free_ok X G (x := "sum") (allF_at c.b 10 rfl), He.free_ok X G (x := "tuple") (allF_at c.b 11 rfl), He.free_ok X G (x := "zip") (allF_at c.b 12 rfl), He.int_ok X G (x := "GREATEST") (allF_at c.b 13 rfl), He.int_ok X G (x := "MAX_RUNS") (allF_at c.b 14 rfl), He.int_ok X G (x := "MAX_TEXT") (allF_at c.b 15 rfl), He.int_ok X G (x := "MOST_LETTERS") (allF_at c.b 16 rfl), ExcF.of X G (by decide +kernel) (allF_at c.b 17 rfl) (allF_at c.b 18 rfl), ExcF.of X G (by decide +kernel) (allF_at c.b 19 rfl) (allF_at c.b 20 rfl), ExcF.of X G (by decide +kernel) (allF_at c.b 21 rfl) (allF_at c.b 22 rfl), clsF_of X G (by decide +kernel) (by decide +kernel) (allF_at c.b 23 rfl), fldF_of (by decide +kernel) (all1 ((allF_at c.b 24 rfl)) all0), fldF_of (by decide +kernel) (all1 ((allF_at c.b 25 rfl)) all0), eqF_of (all1 (cf_Word) all0) (all1 (⟨(allF_at c.b 26 rfl), by decide +kernel⟩) all0)⟩
  obtain ⟨fd_are_small, F_are_small⟩ := c.def_ 0 rfl
  have c_are_small : ∀ base : Heap,  Cal P w K mg base ⟨K, clsOf xnames K, T⟩ 1 "are_small" 1 m_are_small := fun base => Cal.of F_are_small (ok_are_small fx  F_are_small) "are_small" (He.glo_ok X G (x := "are_small") (allF_at c.b 27 rfl)) (F_are_small.bindsN (fun _ _ _ _ _ _ us hl => match us, hl with | [_], _ => rfl))
  obtain ⟨fd_is_letters, F_is_letters⟩ := c.def_ 1 rfl
  have c_is_letters : ∀ base : Heap,  Cal P w K mg base ⟨K, clsOf xnames K, T⟩ 2 "is_letters" 1 m_is_letters := fun base => Cal.of F_is_letters (ok_is_letters fx (c_are_small base) F_is_letters) "is_letters" (He.glo_ok X G (x := "is_letters") (allF_at c.b 28 rfl)) (F_is_letters.bindsN (fun _ _ _ _ _ _ us hl => match us, hl with | [_], _ => rfl))
  obtain ⟨fd_require_letters, F_require_letters⟩ := c.def_ 2 rfl
  have c_require_letters : ∀ base : Heap,  Cal P w K mg base ⟨K, clsOf xnames K, T⟩ 3 "require_letters" 1 m_require_letters := fun base => Cal.of F_require_letters (ok_require_letters fx (c_is_letters base) F_require_letters) "require_letters" (He.glo_ok X G (x := "require_letters") (allF_at c.b 29 rfl)) (F_require_letters.bindsN (fun _ _ _ _ _ _ us hl => match us, hl with | [_], _ => rfl))
  obtain ⟨fd_is_integer, F_is_integer⟩ := c.def_ 3 rfl
  have c_is_integer : ∀ base : Heap,  Cal P w K mg base ⟨K, clsOf xnames K, T⟩ 1 "is_integer" 1 m_is_integer := fun base => Cal.of F_is_integer (ok_is_integer fx  F_is_integer) "is_integer" (He.glo_ok X G (x := "is_integer") (allF_at c.b 30 rfl)) (F_is_integer.bindsN (fun _ _ _ _ _ _ us hl => match us, hl with | [_], _ => rfl))
  obtain ⟨fd_is_run, F_is_run⟩ := c.def_ 4 rfl
  have c_is_run : ∀ base : Heap,  Cal P w K mg base ⟨K, clsOf xnames K, T⟩ 2 "is_run" 2 m_is_run := fun base => Cal.of F_is_run (ok_is_run fx (c_is_integer base) F_is_run) "is_run" (He.glo_ok X G (x := "is_run") (allF_at c.b 31 rfl)) (F_is_run.bindsN (fun _ _ _ _ _ _ us hl => match us, hl with | [_, _], _ => rfl))
  obtain ⟨fd_require_runs, F_require_runs⟩ := c.def_ 5 rfl
  have c_require_runs : ∀ base : Heap,  Cal P w K mg base ⟨K, clsOf xnames K, T⟩ 3 "require_runs" 2 m_require_runs := fun base => Cal.of F_require_runs (ok_require_runs fx (c_is_run base) F_require_runs) "require_runs" (He.glo_ok X G (x := "require_runs") (allF_at c.b 32 rfl)) (F_require_runs.bindsN (fun _ _ _ _ _ _ us hl => match us, hl with | [_, _], _ => rfl))
  obtain ⟨fd_joint, F_joint⟩ := c.def_ 6 rfl
  have c_joint : ∀ base : Heap,  Cal P w K mg base ⟨K, clsOf xnames K, T⟩ 1 "joint" 2 m_joint := fun base => Cal.of F_joint (ok_joint fx  F_joint) "joint" (He.glo_ok X G (x := "joint") (allF_at c.b 33 rfl)) (F_joint.bindsN (fun _ _ _ _ _ _ us hl => match us, hl with | [_, _], _ => rfl))
  obtain ⟨fd_shortened, F_shortened⟩ := c.def_ 7 rfl
  have c_shortened : ∀ base : Heap,  Cal P w K mg base ⟨K, clsOf xnames K, T⟩ 18 "shortened" 1 m_shortened := fun base => Cal.of F_shortened (ok_shortened fx (c_joint base) F_shortened (He.glo_ok X G (x := "shortened") (allF_at c.b 34 rfl)) (F_shortened.bindsN (fun _ _ _ _ _ _ us hl => match us, hl with | [_], _ => rfl))) "shortened" (He.glo_ok X G (x := "shortened") (allF_at c.b 34 rfl)) (F_shortened.bindsN (fun _ _ _ _ _ _ us hl => match us, hl with | [_], _ => rfl))
  obtain ⟨fd_Word___init__, F_Word___init__⟩ := c.def_ 8 rfl
  have k_Word___init__ : ∀ base : Heap,  MkM P w K mg base ⟨K, clsOf xnames K, T⟩ 19 "Word" 4 m_Word___init__ [.bl true] := fun base => mkM_of X G (by decide +kernel) (allF_at c.b 35 rfl) (allF_at c.b 36 rfl) (ok_Word___init__ fx (c_require_letters base) (c_require_runs base) (c_shortened base) F_Word___init__) (FunD.binds0 (ps := ["self", "letters", "runs", "checked"]) F_Word___init__ 3 (fun h => by cases h) rfl (fun D doc pm an cdv ct us ks l1 l2 => match us, l1, ks, l2 with | [_, _, _], _, [_], _ => ⟨_, _, _, _, _, _, rfl, rfl, rfl⟩)) (fun _ => .cons (.bl _) (.nil))
  have kk_Word___init__ : ∀ base : Heap,  MkK P w K mg base ⟨K, clsOf xnames K, T⟩ 19 "Word" 4 m_Word___init__ 2 ["checked"] := fun base => (FunD.kbinds0 (ps := ["self", "letters", "runs", "checked"]) F_Word___init__ 3 ["checked"] [] (fun us _ ws => us ++ ws) (fun h => by cases h) (fun _ h => by cases h) (fun r1 _ r3 => r1.append r3) (fun D doc pm an cdv ct us mv ws l1 l2 l3 => match us, l1, mv, l2, ws, l3 with | [_, _, _], _, [], _, [_], _ => kwc_nil rfl)).elim fun _ b => mkK_of X G (by decide +kernel) (allF_at c.b 35 rfl) (allF_at c.b 36 rfl) (ok_Word___init__ fx (c_require_letters base) (c_require_runs base) (c_shortened base) F_Word___init__) b
  obtain ⟨fd_Word_made, F_Word_made⟩ := c.def_ 9 rfl
  have s__Word_made : ∀ base : Heap,  StM P w K mg base ⟨K, clsOf xnames K, T⟩ 21 "Word" "made" 2 m_Word_made := fun base => stm_of (by decide +kernel) (allF_at c.b 37 rfl) (ok_Word_made fx (kk_Word___init__ base) F_Word_made) (F_Word_made.bindsN (fun _ _ _ _ _ _ us hl => match us, hl with | [_, _], _ => rfl))
  obtain ⟨fd_is_text_within, F_is_text_within⟩ := c.def_ 10 rfl
  have c_is_text_within : ∀ base : Heap,  Cal P w K mg base ⟨K, clsOf xnames K, T⟩ 1 "is_text_within" 2 m_is_text_within := fun base => Cal.of F_is_text_within (ok_is_text_within fx  F_is_text_within) "is_text_within" (He.glo_ok X G (x := "is_text_within") (allF_at c.b 38 rfl)) (F_is_text_within.bindsN (fun _ _ _ _ _ _ us hl => match us, hl with | [_, _], _ => rfl))
  obtain ⟨fd_require_text, F_require_text⟩ := c.def_ 11 rfl
  have c_require_text : ∀ base : Heap,  Cal P w K mg base ⟨K, clsOf xnames K, T⟩ 2 "require_text" 2 m_require_text := fun base => Cal.of F_require_text (ok_require_text fx (c_is_text_within base) F_require_text) "require_text" (He.glo_ok X G (x := "require_text") (allF_at c.b 39 rfl)) (F_require_text.bindsN (fun _ _ _ _ _ _ us hl => match us, hl with | [_, _], _ => rfl))
  obtain ⟨fd_Word_of, F_Word_of⟩ := c.def_ 12 rfl
  have m__Word_of : ∀ base : Heap,  CmM P w K mg base ⟨K, clsOf xnames K, T⟩ 22 "Word" "of" 3 m_Word_of := fun base => cmm_of (by decide +kernel) (allF_at c.b 40 rfl) (ok_Word_of fx (c_require_letters base) (c_require_text base) (s__Word_made base) F_Word_of) (F_Word_of.bindsN (fun _ _ _ _ _ _ us hl => match us, hl with | [_, _, _], _ => rfl))
  obtain ⟨fd_Word_runs, F_Word_runs⟩ := c.def_ 13 rfl
  have p_Word_runs : ∀ base : Heap,  Prp P w K mg base ⟨K, clsOf xnames K, T⟩ 1 "Word" "runs" m_Word_runs := fun base => prp_of (by decide +kernel) (allF_at c.b 41 rfl) (ok_Word_runs fx  F_Word_runs) (F_Word_runs.bindsN (fun _ _ _ _ _ _ us hl => match us, hl with | [_], _ => rfl))
  obtain ⟨fd_Word_size, F_Word_size⟩ := c.def_ 14 rfl
  have p_Word_size : ∀ base : Heap,  Prp P w K mg base ⟨K, clsOf xnames K, T⟩ 1 "Word" "size" m_Word_size := fun base => prp_of (by decide +kernel) (allF_at c.b 42 rfl) (ok_Word_size fx  F_Word_size) (F_Word_size.bindsN (fun _ _ _ _ _ _ us hl => match us, hl with | [_], _ => rfl))
  obtain ⟨fd_Word_shortest, F_Word_shortest⟩ := c.def_ 15 rfl
  have d_Word_shortest : ∀ base : Heap,  Dun P w K mg base ⟨K, clsOf xnames K, T⟩ 3 "Word" "shortest" 1 m_Word_shortest := fun base => dun_of (by decide +kernel) (allF_at c.b 43 rfl) (allF_at c.b 44 rfl) (ok_Word_shortest fx (p_Word_size base) F_Word_shortest) (F_Word_shortest.bindsN (fun _ _ _ _ _ _ us hl => match us, hl with | [_], _ => rfl))
  obtain ⟨fd_Word___eq__, F_Word___eq__⟩ := c.def_ 16 rfl
  have d_Word___eq__ : ∀ base : Heap,  Dun P w K mg base ⟨K, clsOf xnames K, T⟩ 1 "Word" "__eq__" 2 m_Word___eq__ := fun base => dun_of (by decide +kernel) (allF_at c.b 45 rfl) (allF_at c.b 44 rfl) (ok_Word___eq__ fx  F_Word___eq__) (F_Word___eq__.bindsN (fun _ _ _ _ _ _ us hl => match us, hl with | [_, _], _ => rfl))
  obtain ⟨fd__law_bit, F__law_bit⟩ := c.def_ 17 rfl
  have c__law_bit : ∀ base : Heap,  Cal P w K mg base ⟨K, clsOf xnames K, T⟩ 1 "_law_bit" 2 m__law_bit := fun base => Cal.of F__law_bit (ok__law_bit fx  F__law_bit) "_law_bit" (He.glo_ok X G (x := "_law_bit") (allF_at c.b 46 rfl)) (F__law_bit.bindsN (fun _ _ _ _ _ _ us hl => match us, hl with | [_, _], _ => rfl))
  obtain ⟨fd__law_pick, F__law_pick⟩ := c.def_ 18 rfl
  have c__law_pick : ∀ base : Heap,  Cal P w K mg base ⟨K, clsOf xnames K, T⟩ 2 "_law_pick" 2 m__law_pick := fun base => Cal.of F__law_pick (ok__law_pick fx (c__law_bit base) F__law_pick) "_law_pick" (He.glo_ok X G (x := "_law_pick") (allF_at c.b 47 rfl)) (F__law_pick.bindsN (fun _ _ _ _ _ _ us hl => match us, hl with | [_, _], _ => rfl))
  obtain ⟨fd__law_cleared, F__law_cleared⟩ := c.def_ 19 rfl
  have c__law_cleared : ∀ base : Heap,  Cal P w K mg base ⟨K, clsOf xnames K, T⟩ 3 "_law_cleared" 2 m__law_cleared := fun base => Cal.of F__law_cleared (ok__law_cleared fx (c__law_pick base) F__law_cleared) "_law_cleared" (He.glo_ok X G (x := "_law_cleared") (allF_at c.b 48 rfl)) (F__law_cleared.bindsN (fun _ _ _ _ _ _ us hl => match us, hl with | [_, _], _ => rfl))
  obtain ⟨fd__law_mixed, F__law_mixed⟩ := c.def_ 20 rfl
  have c__law_mixed : ∀ base : Heap,  Cal P w K mg base ⟨K, clsOf xnames K, T⟩ 3 "_law_mixed" 3 m__law_mixed := fun base => Cal.of F__law_mixed (ok__law_mixed fx (c__law_bit base) (c__law_pick base) F__law_mixed) "_law_mixed" (He.glo_ok X G (x := "_law_mixed") (allF_at c.b 49 rfl)) (F__law_mixed.bindsN (fun _ _ _ _ _ _ us hl => match us, hl with | [_, _, _], _ => rfl))
  obtain ⟨fd__law_padded, F__law_padded⟩ := c.def_ 21 rfl
  have c__law_padded : ∀ base : Heap,  Cal P w K mg base ⟨K, clsOf xnames K, T⟩ 3 "_law_padded" 3 m__law_padded := fun base => Cal.of F__law_padded (ok__law_padded fx (c__law_bit base) (c__law_pick base) F__law_padded) "_law_padded" (He.glo_ok X G (x := "_law_padded") (allF_at c.b 50 rfl)) (F__law_padded.bindsN (fun _ _ _ _ _ _ us hl => match us, hl with | [_, _, _], _ => rfl))
  obtain ⟨fd__law_put_row, F__law_put_row⟩ := c.def_ 22 rfl
  have c__law_put_row : ∀ base : Heap,  Cal P w K mg base ⟨K, clsOf xnames K, T⟩ 1 "_law_put_row" 3 m__law_put_row := fun base => Cal.of F__law_put_row (ok__law_put_row fx  F__law_put_row) "_law_put_row" (He.glo_ok X G (x := "_law_put_row") (allF_at c.b 51 rfl)) (F__law_put_row.bindsN (fun _ _ _ _ _ _ us hl => match us, hl with | [_, _, _], _ => rfl))
  obtain ⟨fd__law_row_of, F__law_row_of⟩ := c.def_ 23 rfl
  have c__law_row_of : ∀ base : Heap,  Cal P w K mg base ⟨K, clsOf xnames K, T⟩ 2 "_law_row_of" 1 m__law_row_of := fun base => Cal.of F__law_row_of (ok__law_row_of fx (c__law_put_row base) F__law_row_of) "_law_row_of" (He.glo_ok X G (x := "_law_row_of") (allF_at c.b 52 rfl)) (F__law_row_of.bindsN (fun _ _ _ _ _ _ us hl => match us, hl with | [_], _ => rfl))
  obtain ⟨fd__law_signs, F__law_signs⟩ := c.def_ 24 rfl
  have c__law_signs : ∀ base : Heap,  Cal P w K mg base ⟨K, clsOf xnames K, T⟩ 3 "_law_signs" 1 m__law_signs := fun base => Cal.of F__law_signs (ok__law_signs fx (c__law_pick base) F__law_signs) "_law_signs" (He.glo_ok X G (x := "_law_signs") (allF_at c.b 53 rfl)) (F__law_signs.bindsN (fun _ _ _ _ _ _ us hl => match us, hl with | [_], _ => rfl))
  obtain ⟨fd__law_right, F__law_right⟩ := c.def_ 25 rfl
  have c__law_right : ∀ base : Heap,  Cal P w K mg base ⟨K, clsOf xnames K, T⟩ 23 "_law_right" 1 m__law_right := fun base => Cal.of F__law_right (ok__law_right fx (c__law_bit base) (c__law_cleared base) (c__law_mixed base) (c__law_padded base) (c__law_pick base) (c__law_row_of base) (c__law_signs base) (d_Word___eq__ base) (d_Word_shortest base) (k_Word___init__ base) (m__Word_of base) (p_Word_runs base) (p_Word_size base) F__law_right) "_law_right" (He.glo_ok X G (x := "_law_right") (allF_at c.b 54 rfl)) (F__law_right.bindsN (fun _ _ _ _ _ _ us hl => match us, hl with | [_], _ => rfl))
  obtain ⟨fd__law_tray, F__law_tray⟩ := c.def_ 26 rfl
  have c__law_tray : ∀ base : Heap,  Cal P w K mg base ⟨K, clsOf xnames K, T⟩ 1 "_law_tray" 2 m__law_tray := fun base => Cal.of F__law_tray (ok__law_tray fx  F__law_tray) "_law_tray" (He.glo_ok X G (x := "_law_tray") (allF_at c.b 55 rfl)) (F__law_tray.bindsN (fun _ _ _ _ _ _ us hl => match us, hl with | [_, _], _ => rfl))
  obtain ⟨fd_law, F_law⟩ := c.def_ 27 rfl
  have e := hfa.symm.trans (He.glo_ok X G (x := "law") (allF_at c.b 56 rfl))
  cases e
  have b := FunD.bindsA (ps := ["script"]) F_law (fun _ _ _ _ _ _ us hl => match us, hl with | [_], _ => rfl)
  exact ⟨fd_law, fun s v => b s [v] rfl, fun base => ok_law fx (c__law_right base) (c__law_tray base) (d_Word_shortest base) (m__Word_of base) (p_Word_runs base) (p_Word_size base) F_law⟩
end K04
set_option Elab.async false
set_option maxRecDepth 100000
set_option maxHeartbeats 0
namespace K04
open PySem PySem.Spec PyProof.Rows L2 MM
abbrev R : PySem.W.OpenRow := PySem.W.OpenLaw.row PySem.Challenge.rw_signedcounts_k04_whole_words_by_cancelli
abbrev hk : PySem.W.Hook := hookM 7 (allF fa) ds []
def ob (s : PySem.W.SharedT) : AlM := seeM 7 (allF fa) ds [] (HandSHeadRun.getT s)
theorem ob_eq (s : PySem.W.SharedT) : ob s = hk.obs s.abs := seeM_eq (HandSHeadRun.getT_eq s)
def loose : List Str := (["CountError", "GREATEST", "InvalidLetters", "InvalidNumber", "InvalidOperation", "InvalidText", "MAX_RUNS", "MAX_TEXT", "MOST_LETTERS", "TooMany"] : List Str) ++ (["Word", "_law_bit", "_law_cleared", "_law_mixed", "_law_padded", "_law_pick", "_law_put_row", "_law_right", "_law_row_of", "_law_signs"] : List Str) ++ (["_law_tray", "_wall", "are_small", "is_integer", "is_integer_within", "is_letters", "is_run", "is_text_within", "joint", "require_letters"] : List Str) ++ (["require_runs", "require_text", "require_within", "shortened", "undone_runs"] : List Str)
theorem run (w : World) : HandSHeadRun.RunEq R (PySem.W.view R.prog [39]) hk ob 20000 loose w := by
  intro os
  kernel_rfl
end K04
open PySem PySem.W PySem.Calls PyProof.Rows
theorem PySem.Challenge.cw_signedcounts_k04_whole_words_by_cancelli_holds : PySem.Challenge.rw_signedcounts_k04_whole_words_by_cancelli.Holds := by
  w_on; o_law
  refine HandSHeadRun.head_any (r := K04.R) (q := view K04.R.prog [39]) (H := K04.hk) (ob := K04.ob) (M := 20000) (loose := K04.loose) (d := HandSHeadRun.topDef K04.R.prog 39) (kwd := []) K04.ob_eq
    (by kernel_rfl) (fun s => by kernel_rfl) K04.run (by kernel_rfl) (by kernel_rfl) (by kernel_rfl) (by rfl) (by first | assumption | decide +kernel) (by decide +kernel) ⟨rfl, rfl, rfl, rfl, rfl, by decide +kernel⟩ ?hw ?hc
  case hw => w_witness2
  case hc =>
    refine L2.walk_ofE (l := PySem.Challenge.rw_signedcounts_k04_whole_words_by_cancelli) (n := 63) (k := 24) (x := "script") (CX := MM.CXW PySem.Challenge.rw_signedcounts_k04_whole_words_by_cancelli.prog) rfl (by decide) (by kernel_rfl) ⟨rfl, by decide, by decide⟩ ?F MM.cxw_out
    case F =>
      intro w mg fa h Y G hmg0
      obtain ⟨K, KX, c⟩ := Y
      have hmg : mg ("law" : PySem.Str) = some (.ref fa) := by
        have e : (HandSHeadRun.topDef K04.R.prog 39).name = ("law" : PySem.Str) := by kernel_rfl
        rw [← e]
        exact hmg0
      obtain ⟨fd, hb, hF⟩ := K04.facts (P := (PySem.Challenge.rw_signedcounts_k04_whole_words_by_cancelli).prog) (w := w) (T := []) KX G hmg c
      exact ⟨K, fd, _, KX, hb, fun H a ns hl _ hS => MM.sp_law (fun ns hl => K04.law_true ns hl) H a ns hl hS (fun _ h => by cases h), fun base _ _ => MM.FnOk.cxw (hF base)⟩
