import PyProof.Rows.All
import HandS.ForMost
import HandS.WordsExc
import HandS.TupAny
import HandS.IsInst
import HandS.Defaults
import HandS.HeadEnd
import PyProof.ReprReads
import KE.DataMinMax
import HandS.Head2
import HandS.HeadHook2
import HandS.ExcInit
import HandS.ExcField
import HandS.CallSlots
import KE.KExcIs
import HandS.Deep
import HandS.TupLe
import HandS.TryOnly
import HandS.HeadHook3
import PyProof.ReprLen
import Wide.All
import OpenK.AllK
import Wide.FinOn
import KE.KStateDown
import Lean
import PySem.Challenge.RW_cellrealm_k07_terms_right_and_spoilt
set_option Elab.async false
set_option linter.all false
set_option maxRecDepth 100000
set_option maxHeartbeats 4000000
/-! Mir0: pure values, worlds, the relation between a world and the abstract heap. -/
namespace Mir
open PySem PySem.Spec PyProof.Rows L2

/-- a value as plain data. lst: a list that is never changed any more; cl: a list that is locked or written; obj: a shared object of the store -/
inductive PV where
  | non | bl (b : Bool) | int (i : Int) | str (x : Str)
  | tup (xs : List PV) | lst (xs : List PV) | cl (xs : List PV) | obj (n : Nat)
/-- what an object of the store (or a list that a def is still filling) holds -/
inductive SO where
  | lst (xs : List PV)
abbrev Store := List SO
inductive Res (α : Type) where
  | ok (a : α) (S : Store) | exc (c : Str) (fs : List (Str × PV)) (S : Store) | bad
def Res.bind {α β : Type} : Res α → (α → Store → Res β) → Res β
  | .ok a S, f => f a S
  | .exc c fs S, _ => .exc c fs S
  | .bad, _ => .bad
/-- no exception is let through -/
def Res.nox {α : Type} : Res α → Res α
  | .ok a S => .ok a S
  | _ => .bad

def cut (H : Hp) (O : List Addr) : Hp := fun a => if a ∈ O then none else H a
theorem cut_out {H : Hp} {O : List Addr} {a : Addr} (h : a ∉ O) : cut H O a = H a := by unfold cut; rw [if_neg h]
theorem cut_in {H : Hp} {O : List Addr} {a : Addr} (h : a ∈ O) : cut H O a = none := by unfold cut; rw [if_pos h]
theorem cut_some {H : Hp} {O : List Addr} {a : Addr} {o : HO} (h : cut H O a = some o) : a ∉ O ∧ H a = some o := by
  by_cases m : a ∈ O
  · rw [cut_in m] at h; cases h
  · rw [cut_out m] at h; exact ⟨m, h⟩

section
variable (K : PySem.W.Frag) (L : List Addr) (Hc : Hp)
mutual
def RV : PV → V → Prop
  | .non, v => v = .non
  | .bl b, v => v = .bl b
  | .int i, v => v = .int i
  | .str x, v => v = .str x
  | .tup xs, v => ∃ a vs, v = .ref a ∧ SqT K Hc a vs ∧ RVs xs vs
  | .lst xs, v => ∃ a vs, v = .ref a ∧ Hc a = some (.lst vs) ∧ RVs xs vs
  | .cl xs, v => ∃ a vs, v = .ref a ∧ SqL K Hc a vs ∧ RVs xs vs
  | .obj n, v => ∃ a, v = .ref a ∧ L[n]? = some a
def RVs : List PV → List V → Prop
  | [], vs => vs = []
  | x :: xs, vs => ∃ v r, vs = v :: r ∧ RV x v ∧ RVs xs r
end
def RF : List (Str × PV) → List (Str × V) → Prop
  | [], vs => vs = []
  | (f, x) :: xs, vs => ∃ v r, vs = (f, v) :: r ∧ RV K L Hc x v ∧ RF xs r
/-- what stands at an address holds o -/
def SOk : Option HO → SO → Prop
  | ho, .lst xs => ∃ vs, ho = some (.lst vs) ∧ RVs K L Hc xs vs
end

section
variable {K : PySem.W.Frag} {L L' : List Addr} {Hc Hc' : Hp}
theorem sqT_mono (e : ∀ a o, Hc a = some o → Hc' a = some o) {a : Addr} {vs : List V} (h : SqT K Hc a vs) : SqT K Hc' a vs := by
  rcases h with (h | ⟨o, h⟩) | h
  · exact .inl (.inl (e _ _ h))
  · exact .inl (.inr ⟨o, e _ _ h⟩)
  · exact .inr h
theorem sqL_mono (e : ∀ a o, Hc a = some o → Hc' a = some o) {a : Addr} {vs : List V} (h : SqL K Hc a vs) : SqL K Hc' a vs := by
  rcases h with (h | ⟨o, h⟩) | h
  · exact .inl (.inl (e _ _ h))
  · exact .inl (.inr ⟨o, e _ _ h⟩)
  · exact .inr h
theorem pre_get {l : L <+: L'} {n : Nat} {a : Addr} (h : L[n]? = some a) : L'[n]? = some a := by
  obtain ⟨t, rfl⟩ := l
  rw [List.getElem?_append_left (List.getElem?_eq_some_iff.mp h).1]
  exact h
mutual
theorem RV.mono (l : L <+: L') (e : ∀ a o, Hc a = some o → Hc' a = some o) : ∀ {x : PV} {v : V}, RV K L Hc x v → RV K L' Hc' x v
  | .non, _, h => h
  | .bl _, _, h => h
  | .int _, _, h => h
  | .str _, _, h => h
  | .tup xs, _, h => by
    obtain ⟨a, vs, h1, h2, h3⟩ := h
    exact ⟨a, vs, h1, sqT_mono e h2, RVs.mono l e h3⟩
  | .lst xs, _, h => by
    obtain ⟨a, vs, h1, h2, h3⟩ := h
    exact ⟨a, vs, h1, e _ _ h2, RVs.mono l e h3⟩
  | .cl xs, _, h => by
    obtain ⟨a, vs, h1, h2, h3⟩ := h
    exact ⟨a, vs, h1, sqL_mono e h2, RVs.mono l e h3⟩
  | .obj n, _, h => by
    obtain ⟨a, h1, h2⟩ := h
    exact ⟨a, h1, pre_get (l := l) h2⟩
theorem RVs.mono (l : L <+: L') (e : ∀ a o, Hc a = some o → Hc' a = some o) : ∀ {xs : List PV} {vs : List V}, RVs K L Hc xs vs → RVs K L' Hc' xs vs
  | [], _, h => h
  | x :: xs, _, h => by
    obtain ⟨v, r, h1, h2, h3⟩ := h
    exact ⟨v, r, h1, RV.mono l e h2, RVs.mono l e h3⟩
end
theorem RF.mono (l : L <+: L') (e : ∀ a o, Hc a = some o → Hc' a = some o) : ∀ {xs : List (Str × PV)} {vs : List (Str × V)}, RF K L Hc xs vs → RF K L' Hc' xs vs
  | [], _, h => h
  | (f, x) :: xs, _, h => by
    obtain ⟨v, r, h1, h2, h3⟩ := h
    exact ⟨v, r, h1, RV.mono l e h2, RF.mono l e h3⟩
theorem SOk.mono (l : L <+: L') (e : ∀ a o, Hc a = some o → Hc' a = some o) : ∀ {o : SO} {ho : Option HO}, SOk K L Hc ho o → SOk K L' Hc' ho o
  | .lst xs, _, h => by
    obtain ⟨vs, h1, h2⟩ := h
    exact ⟨vs, h1, RVs.mono l e h2⟩
theorem SOk.some : ∀ {o : SO} {ho : Option HO}, SOk K L Hc ho o → ∃ u, ho = some u
  | .lst _, _, ⟨_, h, _⟩ => ⟨_, h⟩
theorem RVs.len : ∀ {xs : List PV} {vs : List V}, RVs K L Hc xs vs → vs.length = xs.length
  | [], _, h => by
    have h : _ = [] := h
    subst h; rfl
  | x :: xs, _, h => by
    obtain ⟨v, r, rfl, _, h3⟩ := h
    simp [RVs.len h3]
theorem RVs.get : ∀ {xs : List PV} {vs : List V} {i : Nat} {x : PV}, RVs K L Hc xs vs → xs[i]? = some x → ∃ v, vs[i]? = some v ∧ RV K L Hc x v
  | [], _, _, _, _, e => by simp at e
  | x :: xs, _, 0, _, h, e => by
    obtain ⟨v, r, rfl, h2, h3⟩ := h
    simp at e; subst e
    exact ⟨v, rfl, h2⟩
  | x :: xs, _, i + 1, _, h, e => by
    obtain ⟨v, r, rfl, h2, h3⟩ := h
    obtain ⟨w, h4, h5⟩ := RVs.get (i := i) h3 (by simpa using e)
    exact ⟨w, by simpa using h4, h5⟩
theorem RVs.append : ∀ {xs ys : List PV} {vs ws : List V}, RVs K L Hc xs vs → RVs K L Hc ys ws → RVs K L Hc (xs ++ ys) (vs ++ ws)
  | [], _, _, _, h, h' => by
    have h : _ = [] := h
    subst h; exact h'
  | x :: xs, _, _, _, h, h' => by
    obtain ⟨v, r, rfl, h2, h3⟩ := h
    exact ⟨v, r ++ _, rfl, h2, RVs.append h3 h'⟩
theorem RVs.take : ∀ {xs : List PV} {vs : List V} (n : Nat), RVs K L Hc xs vs → RVs K L Hc (xs.take n) (vs.take n)
  | [], _, n, h => by
    have h : _ = [] := h
    subst h; simp; exact rfl
  | x :: xs, _, 0, h => rfl
  | x :: xs, _, n + 1, h => by
    obtain ⟨v, r, rfl, h2, h3⟩ := h
    exact ⟨v, r.take n, rfl, h2, RVs.take n h3⟩
theorem RVs.drop : ∀ {xs : List PV} {vs : List V} (n : Nat), RVs K L Hc xs vs → RVs K L Hc (xs.drop n) (vs.drop n)
  | [], _, n, h => by
    have h : _ = [] := h
    subst h; simp; exact rfl
  | x :: xs, _, 0, h => h
  | x :: xs, _, n + 1, h => by
    obtain ⟨v, r, rfl, h2, h3⟩ := h
    exact RVs.drop n h3
theorem RVs.set {y : PV} {w : V} (hy : RV K L Hc y w) : ∀ {xs : List PV} {vs : List V} (n : Nat), RVs K L Hc xs vs → RVs K L Hc (xs.set n y) (vs.set n w)
  | [], _, n, h => by
    have h : _ = [] := h
    subst h; exact rfl
  | x :: xs, _, 0, h => by
    obtain ⟨v, r, rfl, h2, h3⟩ := h
    exact ⟨w, r, rfl, hy, h3⟩
  | x :: xs, _, n + 1, h => by
    obtain ⟨v, r, rfl, h2, h3⟩ := h
    exact ⟨v, _, rfl, h2, RVs.set hy n h3⟩
theorem RVs.one {x : PV} {v : V} (h : RV K L Hc x v) : RVs K L Hc [x] [v] := ⟨v, [], rfl, h, rfl⟩
theorem RVs.nil : RVs K L Hc [] [] := rfl
theorem RVs.cons {x : PV} {v : V} {xs : List PV} {vs : List V} (h : RV K L Hc x v) (t : RVs K L Hc xs vs) : RVs K L Hc (x :: xs) (v :: vs) := ⟨v, vs, rfl, h, t⟩
end

/-! ### worlds -/
structure Wd where
  L : List Addr
  O : List Addr
  H : Hp
  S : Store
  pin : Option (Addr × Addr × (Str → Prop)) := none
abbrev Wd.hc (w : Wd) : Hp := cut w.H w.O
structure WOk (K : PySem.W.Frag) (w : Wd) : Prop where
  sub : ∀ a ∈ w.L, a ∈ w.O
  nd : w.L.Nodup
  len : w.S.length = w.L.length
  st : ∀ (n : Nat) o a, w.S[n]? = some o → w.L[n]? = some a → SOk K w.L w.hc (w.H a) o
  dom : ∀ a ∈ w.O, ∃ o, w.H a = some o
structure WStep (w w' : Wd) : Prop where
  pre : w.L <+: w'.L
  keep : ∀ a o, w.H a = some o → a ∉ w.L → w'.H a = some o
  omono : ∀ a ∈ w.O, a ∈ w'.O
  oset : ∀ a ∈ w'.O, a ∈ w.O ∨ w.H a = none
  lset : ∀ a ∈ w'.L, a ∈ w.L ∨ w.H a = none
/-- no object that is there goes away -/
structure VStep (w w' : Wd) : Prop where
  pre : w.L <+: w'.L
  ext : ∀ a o, w.hc a = some o → w'.hc a = some o
theorem VStep.refl (w : Wd) : VStep w w := ⟨List.prefix_refl _, fun _ _ h => h⟩
theorem VStep.trans {w w1 w2 : Wd} (a : VStep w w1) (b : VStep w1 w2) : VStep w w2 := ⟨a.pre.trans b.pre, fun x o h => b.ext x o (a.ext x o h)⟩
section
variable {K : PySem.W.Frag} {w w1 w2 : Wd}
theorem WStep.refl (k : ∀ a ∈ w.L, a ∈ w.O) : WStep w w := ⟨List.prefix_refl _, fun _ _ h _ => h, fun _ h => h, fun _ h => .inl h, fun _ h => .inl h⟩
theorem WStep.ext (s : WStep w w1) (k : ∀ a ∈ w.L, a ∈ w.O) : ∀ a o, w.hc a = some o → w1.hc a = some o := fun a o h => by
  obtain ⟨h1, h2⟩ := cut_some h
  have h3 : a ∉ w1.O := fun z => by
    rcases s.oset a z with q | q
    · exact h1 q
    · rw [q] at h2; cases h2
  show cut _ _ _ = _
  rw [cut_out h3]
  exact s.keep a o h2 fun z => h1 (k a z)
theorem WStep.v (s : WStep w w1) (k : ∀ a ∈ w.L, a ∈ w.O) : VStep w w1 := ⟨s.pre, s.ext k⟩
theorem WStep.trans (a : WStep w w1) (b : WStep w1 w2) (kd : ∀ a ∈ w.L, ∃ o, w.H a = some o) (kd1 : ∀ a ∈ w1.L, ∃ o, w1.H a = some o) : WStep w w2 := by
  have none_back : ∀ x, w1.H x = none → x ∉ w.L → w.H x = none := fun x h nx => by
    cases q : w.H x with
    | none => rfl
    | some o =>
      rw [a.keep x o q nx] at h
      cases h
  refine ⟨a.pre.trans b.pre, fun x o h n => ?_, fun x h => b.omono x (a.omono x h), fun x h => ?_, fun x h => ?_⟩
  · refine b.keep x o (a.keep x o h n) fun z => ?_
    rcases a.lset x z with q | q
    · exact n q
    · rw [q] at h; cases h
  · rcases b.oset x h with q | q
    · exact a.oset x q
    · by_cases nx : x ∈ w.L
      · have : x ∈ w1.L := a.pre.subset nx
        obtain ⟨o, e⟩ := kd1 x this
        rw [q] at e; cases e
      · exact .inr (none_back x q nx)
  · rcases b.lset x h with q | q
    · exact a.lset x q
    · by_cases nx : x ∈ w.L
      · exact .inl nx
      · exact .inr (none_back x q nx)
theorem WOk.domL (k : WOk K w) : ∀ a ∈ w.L, ∃ o, w.H a = some o := fun a h => k.dom a (k.sub a h)
theorem WStep.tr (a : WStep w w1) (b : WStep w1 w2) (k : WOk K w) (k1 : WOk K w1) : WStep w w2 := a.trans b k.domL k1.domL
/-- a fresh address -/
theorem WOk.nin (k : WOk K w) {p : Addr} (h : w.H p = none) : p ∉ w.O := fun z => by
  obtain ⟨o, e⟩ := k.dom p z
  rw [h] at e; cases e
theorem WOk.ninL (k : WOk K w) {p : Addr} (h : w.H p = none) : p ∉ w.L := fun z => k.nin h (k.sub p z)
end

/-! ### the frame -/
inductive Slot where
  | none | val (x : PV) | own (o : SO) | pin (c : Str) (fs : List (Str × PV))
abbrev Rho := List Slot
structure FI (K : PySem.W.Frag) (G w : Wd) (ρ : Rho) (σ : L2.St) : Prop where
  gok : WOk K G
  ok : WOk K w
  stp : WStep G w
  len : σ.length = ρ.length
  val : ∀ (i : Nat) x, ρ[i]? = some (.val x) → ∃ v, σ[i]? = some (some v) ∧ RV K w.L w.hc x v
  own : ∀ (i : Nat) o, ρ[i]? = some (.own o) → ∃ p, σ[i]? = some (some (.ref p)) ∧ p ∈ w.O ∧ p ∉ w.L ∧ G.H p = Option.none ∧ SOk K w.L w.hc (w.H p) o
  dis : ∀ (i j : Nat) oi oj, i ≠ j → ρ[i]? = some (.own oi) → ρ[j]? = some (.own oj) → σ[i]? ≠ σ[j]?
  pin : ∀ (i : Nat) c fs, ρ[i]? = some (.pin c fs) → ∃ a d P vs, G.pin = some (a, d, P) ∧ σ[i]? = some (some (.ref a)) ∧ P c ∧ w.hc d = some (.xd vs) ∧ RF K w.L w.hc fs vs

section
variable {K : PySem.W.Frag} {G w w' : Wd} {ρ : Rho} {σ : L2.St}
theorem FI.step (I : FI K G w ρ σ) (s : WStep w w') (k : WOk K w') : FI K G w' ρ σ := by
  have e := s.ext I.ok.sub
  refine ⟨I.gok, k, I.stp.tr s I.gok I.ok, I.len, fun i x h => ?_, fun i o h => ?_, I.dis, fun i c fs h => ?_⟩
  · obtain ⟨v, h1, h2⟩ := I.val i x h
    exact ⟨v, h1, h2.mono s.pre e⟩
  · obtain ⟨p, h1, h2, h3, h4, h5⟩ := I.own i o h
    obtain ⟨u, hu⟩ := I.ok.dom p h2
    have q := s.keep p u hu h3
    refine ⟨p, h1, s.omono p h2, fun z => ?_, h4, ?_⟩
    · rcases s.lset p z with r | r
      · exact h3 r
      · rw [r] at hu; cases hu
    · rw [q]
      rw [hu] at h5
      exact h5.mono s.pre e
  · obtain ⟨a, d, P, vs, h1, h2, h3, h4, h5⟩ := I.pin i c fs h
    exact ⟨a, d, P, vs, h1, h2, h3, e _ _ h4, h5.mono s.pre e⟩
theorem set_get {α : Type} {l : List α} {i j : Nat} {x y : α} (h : (l.set i x)[j]? = some y) : (j = i ∧ y = x) ∨ (j ≠ i ∧ l[j]? = some y) := by
  by_cases e : j = i
  · subst e
    by_cases hl : j < l.length
    · rw [List.getElem?_set_self hl] at h
      exact .inl ⟨rfl, (Option.some.inj h).symm⟩
    · rw [List.getElem?_eq_none (by simpa using hl)] at h
      cases h
  · rw [List.getElem?_set_ne (Ne.symm e)] at h
    exact .inr ⟨e, h⟩
theorem get_lt {α : Type} {l : List α} {i : Nat} {y : α} (h : l[i]? = some y) : i < l.length := (List.getElem?_eq_some_iff.mp h).1
/-- a slot is stored -/
theorem FI.set {i : Nat} {x : PV} {v : V} (I : FI K G w ρ σ) (r : RV K w.L w.hc x v) : FI K G w (ρ.set i (.val x)) (σ.set i (some v)) := by
  refine ⟨I.gok, I.ok, I.stp, by simpa using I.len, fun j y h => ?_, fun j o h => ?_, fun j k oj ok' n h1 h2 => ?_, fun j c fs h => ?_⟩
  · rcases set_get h with ⟨rfl, e⟩ | ⟨n, h⟩
    · cases e
      refine ⟨v, ?_, r⟩
      have := get_lt h
      rw [List.getElem?_set_self (by rw [I.len]; simpa using this)]
    · obtain ⟨v', a, b⟩ := I.val j y h
      exact ⟨v', by rw [List.getElem?_set_ne (Ne.symm n)]; exact a, b⟩
  · rcases set_get h with ⟨rfl, e⟩ | ⟨n, h⟩
    · cases e
    · obtain ⟨p, a, b⟩ := I.own j o h
      exact ⟨p, by rw [List.getElem?_set_ne (Ne.symm n)]; exact a, b⟩
  · rcases set_get h1 with ⟨rfl, e⟩ | ⟨n1, h1⟩
    · cases e
    · rcases set_get h2 with ⟨rfl, e⟩ | ⟨n2, h2⟩
      · cases e
      · rw [List.getElem?_set_ne (Ne.symm n1), List.getElem?_set_ne (Ne.symm n2)]
        exact I.dis j k oj ok' n h1 h2
  · rcases set_get h with ⟨rfl, e⟩ | ⟨n, h⟩
    · cases e
    · obtain ⟨a, d, P, vs, h1, h2, h3⟩ := I.pin j c fs h
      exact ⟨a, d, P, vs, h1, by rw [List.getElem?_set_ne (Ne.symm n)]; exact h2, h3⟩
/-- a slot is forgotten -/
theorem FI.wipe1 {i : Nat} {v : Option V} (I : FI K G w ρ σ) : FI K G w (ρ.set i .none) (σ.set i v) := by
  refine ⟨I.gok, I.ok, I.stp, by simpa using I.len, fun j y h => ?_, fun j o h => ?_, fun j k oj ok' n h1 h2 => ?_, fun j c fs h => ?_⟩
  · rcases set_get h with ⟨rfl, e⟩ | ⟨n, h⟩
    · cases e
    · obtain ⟨v', a, b⟩ := I.val j y h
      exact ⟨v', by rw [List.getElem?_set_ne (Ne.symm n)]; exact a, b⟩
  · rcases set_get h with ⟨rfl, e⟩ | ⟨n, h⟩
    · cases e
    · obtain ⟨p, a, b⟩ := I.own j o h
      exact ⟨p, by rw [List.getElem?_set_ne (Ne.symm n)]; exact a, b⟩
  · rcases set_get h1 with ⟨rfl, e⟩ | ⟨n1, h1⟩
    · cases e
    · rcases set_get h2 with ⟨rfl, e⟩ | ⟨n2, h2⟩
      · cases e
      · rw [List.getElem?_set_ne (Ne.symm n1), List.getElem?_set_ne (Ne.symm n2)]
        exact I.dis j k oj ok' n h1 h2
  · rcases set_get h with ⟨rfl, e⟩ | ⟨n, h⟩
    · cases e
    · obtain ⟨a, d, P, vs, h1, h2, h3⟩ := I.pin j c fs h
      exact ⟨a, d, P, vs, h1, by rw [List.getElem?_set_ne (Ne.symm n)]; exact h2, h3⟩
end
end Mir
set_option maxHeartbeats 4000000
/-! Mir1: the judgements over mirrors, expressions. -/
namespace Mir
open PySem PySem.Spec PyProof.Rows L2

def Good {α : Type} (r : Res α) (ok : α → Store → Prop) (ex : Str → List (Str × PV) → Store → Prop) : Prop :=
  match r with
  | .ok a S => ok a S
  | .exc c fs S => ex c fs S
  | .bad => False
theorem Good.bind1 {α β : Type} {r : Res α} {f : α → Store → Res β} {ok ex} (h : Good (r.bind f) ok ex) : Good r (fun a S => Good (f a S) ok ex) ex := by
  cases r <;> exact h
theorem Good.imp {α : Type} {r : Res α} {ok ok' : α → Store → Prop} {ex ex'} (h : Good r ok ex) (h1 : ∀ a S, ok a S → ok' a S) (h2 : ∀ c fs S, ex c fs S → ex' c fs S) : Good r ok' ex' := by
  cases r with
  | ok a S => exact h1 a S h
  | exc c fs S => exact h2 c fs S h
  | bad => exact h
theorem Good.nox {α : Type} {r : Res α} {ok : α → Store → Prop} {ex ex'} (h : Good r.nox ok ex) : Good r ok ex' := by
  cases r with
  | ok a S => exact h
  | exc c fs S => exact h.elim
  | bad => exact h

section
variable (K : PySem.W.Frag) (mg : Str → Option Value)
def PostV (w : Wd) (Q : VK) : PV → Store → Prop := fun x S' => ∀ w' v, w'.S = S' → WStep w w' → WOk K w' → RV K w'.L w'.hc x v → Q v w'.H
def PostB (w : Wd) (Q : Bool → Hp → Prop) : Bool → Store → Prop := fun b S' => ∀ w', w'.S = S' → WStep w w' → WOk K w' → Q b w'.H
def PostA (w : Wd) (Q : List V → Hp → Prop) : List PV → Store → Prop := fun xs S' => ∀ w' vs, w'.S = S' → WStep w w' → WOk K w' → RVs K w'.L w'.hc xs vs → Q vs w'.H
def PostO (w : Wd) (Q : Option Int → Hp → Prop) : Option Int → Store → Prop := fun o S' => ∀ w', w'.S = S' → WStep w w' → WOk K w' → Q o w'.H
/-- a new object at p -/
def PostN (w : Wd) (Q : VK) : SO → Store → Prop := fun o S' => ∀ w' p, w'.S = S' → WStep w w' → WOk K w' → w.H p = none → p ∈ w'.O → p ∉ w'.L → SOk K w'.L w'.hc (w'.H p) o → Q (.ref p) w'.H
def ExP (E : XK) (w : Wd) : Str → List (Str × PV) → Store → Prop := fun c fs S' => ∀ w' C d vs, w'.S = S' → WStep w w' → WOk K w' → mg c = some (Value.ref C) → w'.hc d = some (.xd vs) → RF K w'.L w'.hc fs vs → E (.ref C) (some d) w'.H
end
section
variable {K : PySem.W.Frag} {mg : Str → Option Value} {w w1 : Wd} {Q : VK} {E : XK} {S : Store}
theorem PostV.step {x : PV} (s : WStep w w1) (k : WOk K w) (k1 : WOk K w1) (h : PostV K w Q x S) : PostV K w1 Q x S := fun w' v e s' k' r => h w' v e (s.tr s' k k1) k' r
theorem PostB.step {Q : Bool → Hp → Prop} {x : Bool} (s : WStep w w1) (k : WOk K w) (k1 : WOk K w1) (h : PostB K w Q x S) : PostB K w1 Q x S := fun w' e s' k' => h w' e (s.tr s' k k1) k'
theorem PostA.step {Q : List V → Hp → Prop} {x : List PV} (s : WStep w w1) (k : WOk K w) (k1 : WOk K w1) (h : PostA K w Q x S) : PostA K w1 Q x S := fun w' v e s' k' r => h w' v e (s.tr s' k k1) k' r
theorem PostN.step {x : SO} (s : WStep w w1) (k : WOk K w) (k1 : WOk K w1) (h : PostN K w Q x S) : PostN K w1 Q x S := fun w' p e s' k' n => h w' p e (s.tr s' k k1) k' (by
  cases q : w.H p with
  | none => rfl
  | some o =>
    by_cases z : p ∈ w.L
    · have := s.pre.subset z
      exact absurd this (k1.ninL n)
    · rw [s.keep p o q z] at n; cases n)
theorem ExP.step {c fs} (s : WStep w w1) (k : WOk K w) (k1 : WOk K w1) (h : ExP K mg E w c fs S) : ExP K mg E w1 c fs S := fun w' C d vs e s' k' => h w' C d vs e (s.tr s' k k1) k'
end

abbrev Fe := Rho → Store → Res PV
section
variable (K : PySem.W.Frag) (mg : Str → Option Value) (G : Wd) (E : XK)
def ESim (te : TE) (f : Rho → Store → Res PV) : Prop := ∀ w ρ σ Q, FI K G w ρ σ → Good (f ρ w.S) (PostV K w Q) (ExP K mg E w) → te σ w.H Q
def TSim (tt : TT) (f : Rho → Store → Res Bool) : Prop := ∀ w ρ σ Q, FI K G w ρ σ → Good (f ρ w.S) (PostB K w Q) (ExP K mg E w) → tt σ w.H Q
def ASim (ta : TA) (f : Rho → Store → Res (List PV)) : Prop := ∀ w ρ σ Q, FI K G w ρ σ → Good (f ρ w.S) (PostA K w Q) (ExP K mg E w) → ta σ w.H Q
def OSim (to : TO) (f : Rho → Store → Res (Option Int)) : Prop := ∀ w ρ σ Q, FI K G w ρ σ → Good (f ρ w.S) (PostO K w Q) (ExP K mg E w) → to σ w.H Q
def NSim (te : TE) (f : Rho → Store → Res SO) : Prop := ∀ w ρ σ Q, FI K G w ρ σ → Good (f ρ w.S) (PostN K w Q) (ExP K mg E w) → te σ w.H Q
/-- an operator on values -/
def R2Sim (r : R2) (g : PV → PV → Store → Res PV) : Prop := ∀ w x y v u Q, WOk K w → RV K w.L w.hc x v → RV K w.L w.hc y u → Good (g x y w.S) (PostV K w Q) (ExP K mg E w) → r v u w.H Q
def R2N (r : R2) (g : PV → PV → Store → Res SO) : Prop := ∀ w x y v u Q, WOk K w → RV K w.L w.hc x v → RV K w.L w.hc y u → Good (g x y w.S) (PostN K w Q) (ExP K mg E w) → r v u w.H Q
def R1Sim (r : V → Hp → VK → Prop) (g : PV → Store → Res PV) : Prop := ∀ w x v Q, WOk K w → RV K w.L w.hc x v → Good (g x w.S) (PostV K w Q) (ExP K mg E w) → r v w.H Q
def RASim (r : List V → Hp → VK → Prop) (g : List PV → Store → Res PV) : Prop := ∀ w xs vs Q, WOk K w → RVs K w.L w.hc xs vs → Good (g xs w.S) (PostV K w Q) (ExP K mg E w) → r vs w.H Q
def RAN (r : List V → Hp → VK → Prop) (g : List PV → Store → Res SO) : Prop := ∀ w xs vs Q, WOk K w → RVs K w.L w.hc xs vs → Good (g xs w.S) (PostN K w Q) (ExP K mg E w) → r vs w.H Q
end
variable (X : Cx) (G : Wd) (E : XK) in
structure FE (e : Expr) (te : TE) (f : Rho → Store → Res PV) : Prop where
  pe : PE X e te
  sim : ESim X.K X.mg G E te f
variable (X : Cx) (G : Wd) (E : XK) in
structure FN (e : Expr) (te : TE) (f : Rho → Store → Res SO) : Prop where
  pe : PE X e te
  sim : NSim X.K X.mg G E te f
variable (X : Cx) (G : Wd) (E : XK) in
structure FT (e : Expr) (te : TT) (f : Rho → Store → Res Bool) : Prop where
  pe : PT X e te
  sim : TSim X.K X.mg G E te f
variable (X : Cx) (G : Wd) (E : XK) in
structure FW (e : Expr) (te : TT) (f : Rho → Store → Res Bool) : Prop where
  pe : PW X e te
  sim : TSim X.K X.mg G E te f
variable (X : Cx) (G : Wd) (E : XK) in
structure FA (es : List Expr) (te : TA) (f : Rho → Store → Res (List PV)) : Prop where
  pe : PA X es te
  sim : ASim X.K X.mg G E te f
variable (X : Cx) (G : Wd) (E : XK) in
structure FK (es : List Keyword) (te : TA) (f : Rho → Store → Res (List PV)) : Prop where
  pe : PK X es te
  sim : ASim X.K X.mg G E te f
variable (X : Cx) (G : Wd) (E : XK) in
structure FO (e : Option Expr) (te : TO) (f : Rho → Store → Res (Option Int)) : Prop where
  pe : PO X e te
  sim : OSim X.K X.mg G E te f

/-! ### mirrors of expressions -/
def mVar (i : Nat) : Rho → Store → Res PV := fun ρ S => match ρ[i]? with
  | some (.val x) => .ok x S
  | _ => .bad
def mC (x : PV) : Rho → Store → Res PV := fun _ S => .ok x S
def mOp {α : Type} (g : PV → PV → Store → Res α) (a b : Rho → Store → Res PV) : Rho → Store → Res α := fun ρ S => (a ρ S).bind fun x S1 => (b ρ S1).bind fun y S2 => g x y S2
def mUn {α : Type} (g : PV → Store → Res α) (a : Rho → Store → Res PV) : Rho → Store → Res α := fun ρ S => (a ρ S).bind g
def mArgs {α : Type} (g : List PV → Store → Res α) (a : Rho → Store → Res (List PV)) : Rho → Store → Res α := fun ρ S => (a ρ S).bind g
def mNil : Rho → Store → Res (List PV) := fun _ S => .ok [] S
def mCons (a : Rho → Store → Res PV) (t : Rho → Store → Res (List PV)) : Rho → Store → Res (List PV) := fun ρ S => (a ρ S).bind fun x S1 => (t ρ S1).bind fun xs S2 => .ok (x :: xs) S2
def frz : SO → PV
  | .lst xs => .lst xs
def mFrz (a : Rho → Store → Res SO) : Rho → Store → Res PV := fun ρ S => (a ρ S).bind fun o S1 => .ok (frz o) S1
def toB : PV → Store → Res Bool
  | .bl b, S => .ok b S
  | _, _ => .bad
def mB (a : Rho → Store → Res PV) : Rho → Store → Res Bool := fun ρ S => (a ρ S).bind toB
def mAnd (a b : Rho → Store → Res Bool) : Rho → Store → Res Bool := fun ρ S => (a ρ S).bind fun c S1 => if c then b ρ S1 else .ok false S1
def mOr (a b : Rho → Store → Res Bool) : Rho → Store → Res Bool := fun ρ S => (a ρ S).bind fun c S1 => if c then .ok true S1 else b ρ S1
def mNot (a : Rho → Store → Res Bool) : Rho → Store → Res Bool := fun ρ S => (a ρ S).bind fun c S1 => .ok (!c) S1
/-- a bool as a value -/
def mBV (a : Rho → Store → Res Bool) : Rho → Store → Res PV := fun ρ S => (a ρ S).bind fun c S1 => .ok (.bl c) S1
def mIf {α : Type} (t : Rho → Store → Res Bool) (a b : Rho → Store → Res α) : Rho → Store → Res α := fun ρ S => (t ρ S).bind fun c S1 => if c then a ρ S1 else b ρ S1

/-! ### freezing -/
section
variable {K : PySem.W.Frag} {w w' : Wd} {p : Addr} {o : SO}
def Wd.freeze (w : Wd) (p : Addr) : Wd := { w with O := w.O.filter fun a => !decide (a = p) }
theorem freeze_O {a : Addr} : a ∈ (w.freeze p).O ↔ a ∈ w.O ∧ a ≠ p := by
  unfold Wd.freeze
  simp [List.mem_filter]
theorem freeze_ext : ∀ a o, w.hc a = some o → (w.freeze p).hc a = some o := fun a o h => by
  obtain ⟨h1, h2⟩ := cut_some h
  show cut _ _ _ = _
  rw [cut_out fun z => h1 (freeze_O.mp z).1]
  exact h2
theorem freeze_at : (w.freeze p).hc p = w.H p := by
  show cut _ _ _ = _
  rw [cut_out fun z => (freeze_O.mp z).2 rfl]
  rfl
theorem freeze_ok (k : WOk K w) (hl : p ∉ w.L) : WOk K (w.freeze p) :=
  ⟨fun a h => freeze_O.mpr ⟨k.sub a h, fun e => hl (e ▸ h)⟩, k.nd, k.len, fun n o a h1 h2 => (k.st n o a h1 h2).mono (List.prefix_refl _) freeze_ext, fun a h => k.dom a (freeze_O.mp h).1⟩
theorem freeze_step {w0 : Wd} (s : WStep w0 w) (hn : p ∉ w0.O) : WStep w0 (w.freeze p) :=
  ⟨s.pre, s.keep, fun a h => freeze_O.mpr ⟨s.omono a h, fun e => hn (e ▸ h)⟩, fun a h => s.oset a (freeze_O.mp h).1, s.lset⟩
theorem freeze_rv (h : SOk K w.L w.hc (w.H p) o) : RV K (w.freeze p).L (w.freeze p).hc (frz o) (.ref p) := by
  cases o with
  | lst xs =>
    obtain ⟨vs, h1, h2⟩ := h
    exact ⟨p, vs, rfl, by rw [freeze_at]; exact h1, h2.mono (List.prefix_refl _) freeze_ext⟩
end

/-! ### rules -/
section
variable {X : Cx} {G : Wd} {E : XK}
theorem FT.ofW {e te f} (h : FW X G E e te f) : FT X G E e te f := ⟨h.pe.pt, h.sim⟩
theorem fe_var {i : Nat} {x : Str} {pos : Pos} (h : PE X (.Name x pos) (tVar i)) : FE X G E (.Name x pos) (tVar i) (mVar i) := ⟨h, fun w ρ σ Q I h => by
  unfold mVar at h
  cases q : ρ[i]? with
  | none => rw [q] at h; exact h.elim
  | some s =>
    rw [q] at h
    cases s with
    | none => exact h.elim
    | own o => exact h.elim
    | pin c fs => exact h.elim
    | val x =>
      obtain ⟨v, e, r⟩ := I.val i x q
      exact ⟨v, e, h w v rfl (WStep.refl I.ok.sub) I.ok r⟩⟩
theorem sim_c {K mg G E} {x : PV} {v : V} (r : ∀ L Hc, RV K L Hc x v) : ESim K mg G E (tC v) (mC x) := fun w ρ σ Q I h => h w v rfl (WStep.refl I.ok.sub) I.ok (r _ _)
theorem fe_int {i j pos} : FE X G E (.Constant (.int i) j pos) (tC (.int i)) (mC (.int i)) := ⟨pe_int, sim_c fun _ _ => rfl⟩
theorem fe_bl {b j pos} : FE X G E (.Constant (.bool b) j pos) (tC (.bl b)) (mC (.bl b)) := ⟨pe_bl, sim_c fun _ _ => rfl⟩
theorem fe_non {j pos} : FE X G E (.Constant .none j pos) (tC .non) (mC .non) := ⟨pe_non, sim_c fun _ _ => rfl⟩
theorem fe_str {x j pos} : FE X G E (.Constant (.str x) j pos) (tC (.str x)) (mC (.str x)) := ⟨pe_str, sim_c fun _ _ => rfl⟩
/-- a module's constant -/
theorem fe_glob {x : Str} {y : PV} {v : V} {u : Value} {pos : Pos} (hg : Gl X x) (hm : X.mg x = some u) (r : RelV v u) (hy : ∀ L Hc, RV X.K L Hc y v) (hd : (x == ("__debug__" : Str)) = false := by decide) : FE X G E (.Name x pos) (tC v) (mC y) :=
  ⟨pe_glob hg hm r hd, sim_c hy⟩

theorem sim_bin {K mg G E} {ta tb : TE} {fa fb} (ha : ESim K mg G E ta fa) (hb : ESim K mg G E tb fb) {w ρ σ} (I : FI K G w ρ σ) {α : Type} {g : PV → PV → Store → Res α} {ok : α → Store → Prop} {R : V → V → Hp → Prop}
    (h : Good (mOp g fa fb ρ w.S) ok (ExP K mg E w))
    (hr : ∀ w2 x y v u, WStep w w2 → WOk K w2 → RV K w2.L w2.hc x v → RV K w2.L w2.hc y u → Good (g x y w2.S) ok (ExP K mg E w) → R v u w2.H) : ta σ w.H fun v H1 => tb σ H1 fun u H2 => R v u H2 := by
  refine ha w ρ σ _ I (Good.imp (Good.bind1 h) (fun x S1 h1 => ?_) fun _ _ _ h => h)
  intro w1 v e1 s1 k1 r1
  subst e1
  have I1 := I.step s1 k1
  refine hb w1 ρ σ _ I1 (Good.imp (Good.bind1 h1) (fun y S2 h2 => ?_) fun _ _ _ h => h.step s1 I.ok k1)
  intro w2 u e2 s2 k2 r2
  subst e2
  exact hr w2 x y v u (s1.tr s2 I.ok k1) k2 (r1.mono s2.pre (s2.ext k1.sub)) r2 h2
theorem sim_op {K mg G E} {ta tb : TE} {fa fb} {r : R2} {g} (ha : ESim K mg G E ta fa) (hb : ESim K mg G E tb fb) (hr : R2Sim K mg E r g) : ESim K mg G E (tOp r ta tb) (mOp g fa fb) := fun w ρ σ Q I h =>
  sim_bin ha hb I h fun w2 x y v u s k rx ry h2 => hr w2 x y v u Q k rx ry (Good.imp h2 (fun _ _ h => h.step s I.ok k) fun _ _ _ h => h.step s I.ok k)
theorem sim_opN {K mg G E} {ta tb : TE} {fa fb} {r : R2} {g} (ha : ESim K mg G E ta fa) (hb : ESim K mg G E tb fb) (hr : R2N K mg E r g) : NSim K mg G E (tOp r ta tb) (mOp g fa fb) := fun w ρ σ Q I h =>
  sim_bin ha hb I h fun w2 x y v u s k rx ry h2 => hr w2 x y v u Q k rx ry (Good.imp h2 (fun _ _ h => h.step s I.ok k) fun _ _ _ h => h.step s I.ok k)
theorem sim_un {K mg G E} {ta : TE} {fa} {r : V → Hp → VK → Prop} {g} (ha : ESim K mg G E ta fa) (hr : R1Sim K mg E r g) : ESim K mg G E (tUn r ta) (mUn g fa) := fun w ρ σ Q I h => by
  refine ha w ρ σ _ I (Good.imp (Good.bind1 h) (fun x S1 h1 => ?_) fun _ _ _ h => h)
  intro w1 v e1 s1 k1 r1
  subst e1
  exact hr w1 x v Q k1 r1 (Good.imp h1 (fun _ _ h => h.step s1 I.ok k1) fun _ _ _ h => h.step s1 I.ok k1)
theorem fe_op {op a b pos ta tb fa fb} {r : R2} {g} (ho : OpR X (binaryOp op) r) (hr : R2Sim X.K X.mg E r g) (ha : FE X G E a ta fa) (hb : FE X G E b tb fb) : FE X G E (.BinOp a op b pos) (tOp r ta tb) (mOp g fa fb) :=
  ⟨pe_op ho ha.pe hb.pe, sim_op ha.sim hb.sim hr⟩
theorem fn_op {op a b pos ta tb fa fb} {r : R2} {g} (ho : OpR X (binaryOp op) r) (hr : R2N X.K X.mg E r g) (ha : FE X G E a ta fa) (hb : FE X G E b tb fb) : FN X G E (.BinOp a op b pos) (tOp r ta tb) (mOp g fa fb) :=
  ⟨pe_op ho ha.pe hb.pe, sim_opN ha.sim hb.sim hr⟩
theorem fe_un {op a pos ta fa} {r : V → Hp → VK → Prop} {g} (ho : UnR X (unaryOp op) r) (hr : R1Sim X.K X.mg E r g) (ha : FE X G E a ta fa) : FE X G E (.UnaryOp op a pos) (tUn r ta) (mUn g fa) :=
  ⟨pe_un ho ha.pe, sim_un ha.sim hr⟩
theorem fe_cmp {op a b pos ta tb fa fb} {r : R2} {g} (ho : OpR X (compareOp op) r) (hr : R2Sim X.K X.mg E r g) (ha : FE X G E a ta fa) (hb : FE X G E b tb fb) (hm : behindInMarks op b = false := by first | exact nobehind _ (by decide) (by decide) | rfl) :
    FE X G E (.Compare a [op] [b] pos) (tOp r ta tb) (mOp g fa fb) := ⟨pe_cmpR ho ha.pe hb.pe hm, sim_op ha.sim hb.sim hr⟩
theorem sim_test {K mg G E} {te : TE} {f} (h : ESim K mg G E te f) : TSim K mg G E (tTest te) (mB f) := fun w ρ σ Q I g => by
  refine h w ρ σ _ I (Good.imp (Good.bind1 g) (fun x S1 h1 => ?_) fun _ _ _ h => h)
  intro w1 v e1 s1 k1 r1
  subst e1
  cases x <;> first | exact h1.elim | skip
  rename_i b
  exact ⟨b, r1, h1 w1 rfl s1 k1⟩
theorem ft_cmp {op a b pos ta tb fa fb} {r : R2} {g} (ho : OpR X (compareOp op) r) (hr : R2Sim X.K X.mg E r g) (ha : FE X G E a ta fa) (hb : FE X G E b tb fb) (hm : behindInMarks op b = false := by first | exact nobehind _ (by decide) (by decide) | rfl) :
    FT X G E (.Compare a [op] [b] pos) (tTest (tOp r ta tb)) (mB (mOp g fa fb)) := ⟨pt_cmpR ho ha.pe hb.pe hm, sim_test (sim_op ha.sim hb.sim hr)⟩
/-- a chain a < b < c -/
def mChain (g g' : PV → PV → Store → Res PV) (a b c : Rho → Store → Res PV) : Rho → Store → Res PV := fun ρ S => (a ρ S).bind fun x S1 => (b ρ S1).bind fun y S2 => (g x y S2).bind fun z S3 => (toB z S3).bind fun k S4 => if k then (c ρ S4).bind fun u S5 => g' y u S5 else .ok (.bl false) S4
theorem sim_chain {K mg G E} {ta tb tc : TE} {fa fb fc} {r r' : R2} {g g'} (ha : ESim K mg G E ta fa) (hb : ESim K mg G E tb fb) (hc : ESim K mg G E tc fc) (hr : R2Sim K mg E r g) (hr' : R2Sim K mg E r' g') : ESim K mg G E (tChain r r' ta tb tc) (mChain g g' fa fb fc) := fun w ρ σ Q I h => by
  refine ha w ρ σ _ I (Good.imp (Good.bind1 h) (fun x S1 h1 => ?_) fun _ _ _ h => h)
  intro w1 v e1 s1 k1 r1
  subst e1
  have I1 := I.step s1 k1
  refine hb w1 ρ σ _ I1 (Good.imp (Good.bind1 h1) (fun y S2 h2 => ?_) fun _ _ _ h => h.step s1 I.ok k1)
  intro w2 u e2 s2 k2 r2
  subst e2
  have I2 := I1.step s2 k2
  have s12 := s1.tr s2 I.ok k1
  refine hr w2 x y v u _ k2 (r1.mono s2.pre (s2.ext k1.sub)) r2 (Good.imp (Good.bind1 h2) (fun z S3 h3 => ?_) fun _ _ _ h => h.step s12 I.ok k2)
  intro w3 vz e3 s3 k3 r3
  subst e3
  have I3 := I2.step s3 k3
  have s13 := s12.tr s3 I.ok k2
  cases z <;> first | exact h3.elim | skip
  rename_i b
  refine ⟨b, r3, ?_⟩
  have h3 : Good (if b then (fc ρ w3.S).bind fun u S5 => g' y u S5 else .ok (.bl false) w3.S) (PostV K w Q) (ExP K mg E w) := h3
  cases b with
  | false =>
    rw [if_neg Bool.false_ne_true] at h3 ⊢
    exact h3 w3 (.bl false) rfl s13 k3 rfl
  | true =>
    rw [if_pos rfl] at h3 ⊢
    refine hc w3 ρ σ _ I3 (Good.imp (Good.bind1 h3) (fun c S5 h5 => ?_) fun _ _ _ h => h.step s13 I.ok k3)
    intro w4 vc e4 s4 k4 r4
    subst e4
    have s14 := s13.tr s4 I.ok k3
    exact hr' w4 y c u vc _ k4 (r2.mono (s3.pre.trans s4.pre) fun a o q => s4.ext k3.sub a o (s3.ext k2.sub a o q)) r4 (Good.imp h5 (fun _ _ h => h.step s14 I.ok k4) fun _ _ _ h => h.step s14 I.ok k4)
theorem fe_chain {op op' a b c pos ta tb tc fa fb fc} {r r' : R2} {g g'} (ho : OpR X (compareOp op) r) (ho' : OpR X (compareOp op') r') (hr : R2Sim X.K X.mg E r g) (hr' : R2Sim X.K X.mg E r' g') (ha : FE X G E a ta fa) (hb : FE X G E b tb fb) (hc : FE X G E c tc fc) (hm : lastMarks [op, op'] [b, c] = false := by rfl) :
    FE X G E (.Compare a [op, op'] [b, c] pos) (tChain r r' ta tb tc) (mChain g g' fa fb fc) := ⟨pe_chain ho ho' ha.pe hb.pe hc.pe (hm := hm), sim_chain ha.sim hb.sim hc.sim hr hr'⟩
theorem ft_chain {op op' a b c pos ta tb tc fa fb fc} {r r' : R2} {g g'} (ho : OpR X (compareOp op) r) (ho' : OpR X (compareOp op') r') (hr : R2Sim X.K X.mg E r g) (hr' : R2Sim X.K X.mg E r' g') (ha : FE X G E a ta fa) (hb : FE X G E b tb fb) (hc : FE X G E c tc fc) (hm : lastMarks [op, op'] [b, c] = false := by rfl) :
    FT X G E (.Compare a [op, op'] [b, c] pos) (tTest (tChain r r' ta tb tc)) (mB (mChain g g' fa fb fc)) := ⟨pt_chain ho ho' ha.pe hb.pe hc.pe (hm := hm), sim_test (sim_chain ha.sim hb.sim hc.sim hr hr')⟩
/-- a value that is a bool, as a test -/
theorem ft_val {e te f} (h : FE X G E e te f) (he : ∀ whole, isTrue e X.env whole = (do let v ← whole; standAt e.pos; holding [v] (truthy v)) := by intro _; rfl) : FT X G E e (tB te) (mB f) := ⟨pt_val h.pe he, sim_test h.sim⟩

theorem sim_and {K mg G E} {t u : TT} {f g} (ha : TSim K mg G E t f) (hb : TSim K mg G E u g) : TSim K mg G E (tAnd t u) (mAnd f g) := fun w ρ σ Q I h => by
  refine ha w ρ σ _ I (Good.imp (Good.bind1 h) (fun c S1 h1 => ?_) fun _ _ _ h => h)
  intro w1 e1 s1 k1
  subst e1
  have h1 : Good (if c then g ρ w1.S else .ok false w1.S) (PostB K w Q) (ExP K mg E w) := h1
  cases c with
  | true =>
    rw [if_pos rfl] at h1 ⊢
    exact hb w1 ρ σ Q (I.step s1 k1) (Good.imp h1 (fun _ _ h => h.step s1 I.ok k1) fun _ _ _ h => h.step s1 I.ok k1)
  | false =>
    rw [if_neg Bool.false_ne_true] at h1 ⊢
    exact h1 w1 rfl s1 k1
theorem sim_or {K mg G E} {t u : TT} {f g} (ha : TSim K mg G E t f) (hb : TSim K mg G E u g) : TSim K mg G E (tOr t u) (mOr f g) := fun w ρ σ Q I h => by
  refine ha w ρ σ _ I (Good.imp (Good.bind1 h) (fun c S1 h1 => ?_) fun _ _ _ h => h)
  intro w1 e1 s1 k1
  subst e1
  have h1 : Good (if c then .ok true w1.S else g ρ w1.S) (PostB K w Q) (ExP K mg E w) := h1
  cases c with
  | false =>
    rw [if_neg Bool.false_ne_true] at h1 ⊢
    exact hb w1 ρ σ Q (I.step s1 k1) (Good.imp h1 (fun _ _ h => h.step s1 I.ok k1) fun _ _ _ h => h.step s1 I.ok k1)
  | true =>
    rw [if_pos rfl] at h1 ⊢
    exact h1 w1 rfl s1 k1
theorem fw_and1 {a pos t f} (h : FT X G E a t f) : FW X G E (.BoolOp .And [a] pos) t f := ⟨pw_and1 h.pe, h.sim⟩
theorem fw_or1 {a pos t f} (h : FT X G E a t f) : FW X G E (.BoolOp .Or [a] pos) t f := ⟨pw_or1 h.pe, h.sim⟩
theorem fw_and {a b rest pos t u f g} (ha : FT X G E a t f) (hb : FW X G E (.BoolOp .And (b :: rest) pos) u g) : FW X G E (.BoolOp .And (a :: b :: rest) pos) (tAnd t u) (mAnd f g) := ⟨pw_and ha.pe hb.pe, sim_and ha.sim hb.sim⟩
theorem fw_or {a b rest pos t u f g} (ha : FT X G E a t f) (hb : FW X G E (.BoolOp .Or (b :: rest) pos) u g) : FW X G E (.BoolOp .Or (a :: b :: rest) pos) (tOr t u) (mOr f g) := ⟨pw_or ha.pe hb.pe, sim_or ha.sim hb.sim⟩
theorem ft_not {a pos t f} (h : FT X G E a t f) : FT X G E (.UnaryOp .Not a pos) (tNot t) (mNot f) := ⟨pt_not h.pe, fun w ρ σ Q I g => by
  refine h.sim w ρ σ _ I (Good.imp (Good.bind1 g) (fun c S1 h1 => ?_) fun _ _ _ h => h)
  intro w1 e1 s1 k1
  subst e1
  exact h1 w1 rfl s1 k1⟩
/-- and, or, not as values (bools) -/
def mAndV (a b : Rho → Store → Res PV) : Rho → Store → Res PV := fun ρ S => (mB a ρ S).bind fun c S1 => if c then b ρ S1 else .ok (.bl false) S1
def mOrV (a b : Rho → Store → Res PV) : Rho → Store → Res PV := fun ρ S => (mB a ρ S).bind fun c S1 => if c then .ok (.bl true) S1 else b ρ S1
def mNotV (a : Rho → Store → Res PV) : Rho → Store → Res PV := fun ρ S => (mB a ρ S).bind fun c S1 => .ok (.bl (!c)) S1
theorem sim_boolV {K mg G E} {ta : TE} {fa} (ha : ESim K mg G E ta fa) {w ρ σ} (I : FI K G w ρ σ) {α : Type} {k : Bool → Store → Res α} {ok : α → Store → Prop} {R : V → Hp → Prop} (h : Good ((mB fa ρ w.S).bind k) ok (ExP K mg E w))
    (hr : ∀ w1 c, WStep w w1 → WOk K w1 → Good (k c w1.S) ok (ExP K mg E w) → R (.bl c) w1.H) : ta σ w.H R := by
  have h' : Good (fa ρ w.S) (fun x S => Good ((toB x S).bind k) ok (ExP K mg E w)) (ExP K mg E w) := by
    have h2 := Good.bind1 h
    have h3 := Good.bind1 h2
    refine Good.imp h3 (fun x S q => ?_) fun _ _ _ h => h
    cases x <;> first | exact q.elim | exact q
  refine ha w ρ σ _ I (Good.imp h' (fun x S1 h1 => ?_) fun _ _ _ h => h)
  intro w1 v e1 s1 k1 r1
  subst e1
  cases x <;> first | exact h1.elim | skip
  rename_i b
  have r1 : v = .bl b := r1
  subst r1
  exact hr w1 b s1 k1 h1
theorem fe_one {op a pos t f} (h : FE X G E a t f) : FE X G E (.BoolOp op [a] pos) t f := ⟨pe_one h.pe, h.sim⟩
theorem fe_and {a b rest pos t u f g} (ha : FE X G E a t f) (hb : FE X G E (.BoolOp .And (b :: rest) pos) u g) : FE X G E (.BoolOp .And (a :: b :: rest) pos) (tAndV t u) (mAndV f g) := ⟨pe_and ha.pe hb.pe, fun w ρ σ Q I h => by
  refine sim_boolV ha.sim I h fun w1 c s1 k1 h1 => ⟨c, rfl, ?_⟩
  cases c with
  | true =>
    rw [if_pos rfl] at h1 ⊢
    exact hb.sim w1 ρ σ Q (I.step s1 k1) (Good.imp h1 (fun _ _ h => h.step s1 I.ok k1) fun _ _ _ h => h.step s1 I.ok k1)
  | false =>
    rw [if_neg Bool.false_ne_true] at h1 ⊢
    exact h1 w1 (.bl false) rfl s1 k1 rfl⟩
theorem fe_or {a b rest pos t u f g} (ha : FE X G E a t f) (hb : FE X G E (.BoolOp .Or (b :: rest) pos) u g) : FE X G E (.BoolOp .Or (a :: b :: rest) pos) (tOrV t u) (mOrV f g) := ⟨pe_or ha.pe hb.pe, fun w ρ σ Q I h => by
  refine sim_boolV ha.sim I h fun w1 c s1 k1 h1 => ⟨c, rfl, ?_⟩
  cases c with
  | false =>
    rw [if_neg Bool.false_ne_true] at h1 ⊢
    exact hb.sim w1 ρ σ Q (I.step s1 k1) (Good.imp h1 (fun _ _ h => h.step s1 I.ok k1) fun _ _ _ h => h.step s1 I.ok k1)
  | true =>
    rw [if_pos rfl] at h1 ⊢
    exact h1 w1 (.bl true) rfl s1 k1 rfl⟩
theorem fe_not {a pos t f} (ha : FE X G E a t f) : FE X G E (.UnaryOp .Not a pos) (tNotV t) (mNotV f) := ⟨pe_not ha.pe, fun w ρ σ Q I h => sim_boolV ha.sim I h fun w1 c s1 k1 h1 => ⟨c, rfl, h1 w1 (.bl (!c)) rfl s1 k1 rfl⟩⟩
theorem fe_ifExp {c a b pos tt ta tb fc fa fb} (hc : FT X G E c tt fc) (ha : FE X G E a ta fa) (hb : FE X G E b tb fb) : FE X G E (.IfExp c a b pos) (tIf tt ta tb) (mIf fc fa fb) := ⟨pe_ifExp hc.pe ha.pe hb.pe, fun w ρ σ Q I h => by
  refine hc.sim w ρ σ _ I (Good.imp (Good.bind1 h) (fun c S1 h1 => ?_) fun _ _ _ h => h)
  intro w1 e1 s1 k1
  subst e1
  have h1 : Good (if c then fa ρ w1.S else fb ρ w1.S) (PostV X.K w Q) (ExP X.K X.mg E w) := h1
  cases c with
  | true =>
    rw [if_pos rfl] at h1 ⊢
    exact ha.sim w1 ρ σ Q (I.step s1 k1) (Good.imp h1 (fun _ _ h => h.step s1 I.ok k1) fun _ _ _ h => h.step s1 I.ok k1)
  | false =>
    rw [if_neg Bool.false_ne_true] at h1 ⊢
    exact hb.sim w1 ρ σ Q (I.step s1 k1) (Good.imp h1 (fun _ _ h => h.step s1 I.ok k1) fun _ _ _ h => h.step s1 I.ok k1)⟩

/-! arguments, displays -/
theorem fa_nil : FA X G E [] tNil mNil := ⟨pa_nil, fun w ρ σ Q I h => h w [] rfl (WStep.refl I.ok.sub) I.ok rfl⟩
theorem sim_cons {K mg G E} {te : TE} {t : TA} {f g} (ha : ESim K mg G E te f) (hr : ASim K mg G E t g) : ASim K mg G E (tCons te t) (mCons f g) := fun w ρ σ Q I h => by
  refine ha w ρ σ _ I (Good.imp (Good.bind1 h) (fun x S1 h1 => ?_) fun _ _ _ h => h)
  intro w1 v e1 s1 k1 r1
  subst e1
  refine hr w1 ρ σ _ (I.step s1 k1) (Good.imp (Good.bind1 h1) (fun xs S2 h2 => ?_) fun _ _ _ h => h.step s1 I.ok k1)
  intro w2 vs e2 s2 k2 r2
  subst e2
  exact h2 w2 (v :: vs) rfl (s1.tr s2 I.ok k1) k2 (RVs.cons (r1.mono s2.pre (s2.ext k1.sub)) r2)
theorem fa_cons {e es te t f g} (ha : FE X G E e te f) (hr : FA X G E es t g) (hs : starEach (e :: es) X.env = (false, eval e X.env) :: starEach es X.env := by rfl) : FA X G E (e :: es) (tCons te t) (mCons f g) := ⟨pa_cons ha.pe hr.pe hs, sim_cons ha.sim hr.sim⟩
theorem fk_nil : FK X G E [] tNil mNil := ⟨pk_nil, fun w ρ σ Q I h => h w [] rfl (WStep.refl I.ok.sub) I.ok rfl⟩
theorem fk_cons {nm e kpos es te t f g} (ha : FE X G E e te f) (hr : FK X G E es t g) : FK X G E (⟨nm, e, kpos⟩ :: es) (tCons te t) (mCons f g) := ⟨pk_cons ha.pe hr.pe, sim_cons ha.sim hr.sim⟩
theorem fo_none : FO X G E none tNoPart (fun _ S => .ok none S) := ⟨po_none, fun w ρ σ Q I h => h w rfl (WStep.refl I.ok.sub) I.ok⟩
def mPart (f : Rho → Store → Res PV) : Rho → Store → Res (Option Int) := fun ρ S => (f ρ S).bind fun x S1 => match x with
  | .int i => .ok (some i) S1
  | _ => .bad
theorem fo_some {e te f} (h : FE X G E e te f) : FO X G E (some e) (tPart te) (mPart f) := ⟨po_some h.pe, fun w ρ σ Q I g => by
  refine h.sim w ρ σ _ I (Good.imp (Good.bind1 g) (fun x S1 h1 => ?_) fun _ _ _ h => h)
  intro w1 v e1 s1 k1 r1
  subst e1
  cases x <;> first | exact h1.elim | skip
  rename_i i
  exact ⟨i, r1, h1 w1 rfl s1 k1⟩⟩

/-- a new object is laid: at an address that is cut -/
def Wd.laid (w : Wd) (p : Addr) (o : HO) : Wd := { w with H := upd w.H p o, O := p :: w.O }
theorem laid_ext {w : Wd} {p : Addr} {o : HO} (hp : w.H p = none) : ∀ a u, w.hc a = some u → (w.laid p o).hc a = some u := fun a u h => by
  obtain ⟨h1, h2⟩ := cut_some h
  have ne : a ≠ p := ne_of_none h2 hp
  show cut (upd w.H p o) (p :: w.O) a = some u
  rw [cut_out (by simp [ne, h1]), upd_ne ne]
  exact h2
theorem laid_ok {K w p o} (k : WOk K w) (hp : w.H p = none) : WOk K (w.laid p o) := by
  refine ⟨fun a h => List.mem_cons_of_mem _ (k.sub a h), k.nd, k.len, fun n u a h1 h2 => ?_, fun a h => ?_⟩
  · have na : a ≠ p := fun e => k.ninL hp (e ▸ List.mem_of_getElem? h2)
    have := (k.st n u a h1 h2).mono (List.prefix_refl _) (laid_ext (o := o) hp)
    show SOk K w.L _ (upd w.H p o a) u
    rw [upd_ne na]
    exact this
  · by_cases e : a = p
    · subst e; exact ⟨o, upd_same⟩
    · show ∃ u, upd w.H p o a = some u
      rw [upd_ne e]
      exact k.dom a ((List.mem_cons.mp h).resolve_left e)
theorem laid_step {K w p o} (k : WOk K w) (hp : w.H p = none) : WStep w (w.laid p o) :=
  ⟨List.prefix_refl _, fun a u h _ => by
    show upd w.H p o a = some u
    rw [upd_ne (ne_of_none h hp)]; exact h, fun a h => List.mem_cons_of_mem _ h, fun a h => by
    rcases List.mem_cons.mp h with e | h
    · exact .inr (e ▸ hp)
    · exact .inl h, fun a h => .inl h⟩
/-- .. and stands as a value -/
def Wd.put (w : Wd) (p : Addr) (o : HO) : Wd := { w with H := upd w.H p o }
theorem put_at {K w p o} (k : WOk K w) (hp : w.H p = none) : (w.put p o).hc p = some o := by
  show cut (upd w.H p o) w.O p = some o
  rw [cut_out (k.nin hp), upd_same]
theorem put_ext {w : Wd} {p : Addr} {o : HO} (hp : w.H p = none) : ∀ a u, w.hc a = some u → (w.put p o).hc a = some u := fun a u h => by
  obtain ⟨h1, h2⟩ := cut_some h
  show cut (upd w.H p o) w.O a = some u
  rw [cut_out h1, upd_ne (ne_of_none h2 hp)]
  exact h2
theorem put_ok {K w p o} (k : WOk K w) (hp : w.H p = none) : WOk K (w.put p o) := by
  refine ⟨k.sub, k.nd, k.len, fun n u a h1 h2 => ?_, fun a h => ?_⟩
  · have na : a ≠ p := fun e => k.ninL hp (e ▸ List.mem_of_getElem? h2)
    have := (k.st n u a h1 h2).mono (List.prefix_refl _) (put_ext (o := o) hp)
    show SOk K w.L _ (upd w.H p o a) u
    rw [upd_ne na]
    exact this
  · obtain ⟨u, e⟩ := k.dom a h
    exact ⟨u, by show upd w.H p o a = some u; rw [upd_ne (ne_of_none e hp)]; exact e⟩
theorem put_step {K w p o} (k : WOk K w) (hp : w.H p = none) : WStep w (w.put p o) :=
  ⟨List.prefix_refl _, fun a u h _ => by
    show upd w.H p o a = some u
    rw [upd_ne (ne_of_none h hp)]; exact h, fun a h => h, fun a h => .inl h, fun a h => .inl h⟩

def sizeM : Nat := 100000
theorem sizeM_le {n : Nat} (h : n ≤ sizeM) : n ≤ sizeLine := Nat.le_trans h (by decide)
theorem sizeM_lt {n : Nat} (h : n < sizeM) : n < sizeLine := Nat.lt_of_lt_of_le h (by decide)
def gTup (xs : List PV) (S : Store) : Res PV := if xs.length ≤ sizeM then .ok (.tup xs) S else .bad
def gLst (xs : List PV) (S : Store) : Res SO := if xs.length ≤ sizeM then .ok (.lst xs) S else .bad
theorem good_if {α : Type} {c : Prop} [Decidable c] {r : Res α} {ok ex} (h : Good (if c then r else .bad) ok ex) : c ∧ Good r ok ex := by
  by_cases q : c
  · rw [if_pos q] at h; exact ⟨q, h⟩
  · rw [if_neg q] at h; exact h.elim
/-- a new tuple -/
theorem post_tup {K w Q} {xs : List PV} {vs : List V} {S : Store} (k : WOk K w) (hS : w.S = S) (r : RVs K w.L w.hc xs vs) (h : PostV K w Q (.tup xs) S) : ∀ p, w.H p = none → Q (.ref p) (upd w.H p (.tup vs)) := fun p hp =>
  h (w.put p (.tup vs)) (.ref p) hS (put_step k hp) (put_ok k hp) ⟨p, vs, rfl, .inl (.inl (put_at k hp)), r.mono (List.prefix_refl _) (put_ext hp)⟩
theorem post_lst {K w Q} {xs : List PV} {vs : List V} {S : Store} (k : WOk K w) (hS : w.S = S) (r : RVs K w.L w.hc xs vs) (h : PostN K w Q (.lst xs) S) : ∀ p, w.H p = none → Q (.ref p) (upd w.H p (.lst vs)) := fun p hp =>
  h (w.laid p (.lst vs)) p hS (laid_step k hp) (laid_ok k hp) hp List.mem_cons_self (k.ninL hp) ⟨vs, by show upd w.H p _ p = _; rw [upd_same], r.mono (List.prefix_refl _) (laid_ext hp)⟩
theorem fe_tup {es x1 pos t f} (h : FA X G E es t f) : FE X G E (.Tuple es x1 pos) (tTup t) (mArgs gTup f) := ⟨pe_tup h.pe, fun w ρ σ Q I g => by
  refine h.sim w ρ σ _ I (Good.imp (Good.bind1 g) (fun xs S1 h1 => ?_) fun _ _ _ h => h)
  intro w1 vs e1 s1 k1 r1
  subst e1
  obtain ⟨c, h2⟩ := good_if h1
  exact ⟨by rw [r1.len]; exact sizeM_le c, post_tup k1 rfl r1 (PostV.step s1 I.ok k1 h2)⟩⟩
theorem fn_lst {es pos t f} (h : FA X G E es t f) : FN X G E (.List es pos) (tLst t) (mArgs gLst f) := ⟨pe_lst h.pe, fun w ρ σ Q I g => by
  refine h.sim w ρ σ _ I (Good.imp (Good.bind1 g) (fun xs S1 h1 => ?_) fun _ _ _ h => h)
  intro w1 vs e1 s1 k1 r1
  subst e1
  obtain ⟨c, h2⟩ := good_if h1
  exact ⟨by rw [r1.len]; exact sizeM_le c, post_lst k1 rfl r1 (PostN.step s1 I.ok k1 h2)⟩⟩
/-- a new object that is not changed any more -/
theorem sim_frz {K mg G E} {te : TE} {f} (h : NSim K mg G E te f) : ESim K mg G E te (mFrz f) := fun w ρ σ Q I g => by
  refine h w ρ σ Q I (Good.imp (Good.bind1 g) (fun o S1 h1 => ?_) fun _ _ _ h => h)
  intro w1 p e1 s1 k1 n1 o1 l1 r1
  exact h1 (w1.freeze p) (.ref p) e1 (freeze_step s1 (I.ok.nin n1)) (freeze_ok k1 l1) (freeze_rv r1)
theorem FN.fe {e te f} (h : FN X G E e te f) : FE X G E e te (mFrz f) := ⟨h.pe, sim_frz h.sim⟩

/-! calls of built-ins -/
theorem sim_CB {K mg G E} {t : TA} {f} {r : List V → Hp → VK → Prop} {g} (h : ASim K mg G E t f) (hr : RASim K mg E r g) : ESim K mg G E (tCB r t) (mArgs g f) := fun w ρ σ Q I q => by
  refine h w ρ σ _ I (Good.imp (Good.bind1 q) (fun xs S1 h1 => ?_) fun _ _ _ h => h)
  intro w1 vs e1 s1 k1 r1
  subst e1
  exact hr w1 xs vs Q k1 r1 (Good.imp h1 (fun _ _ h => h.step s1 I.ok k1) fun _ _ _ h => h.step s1 I.ok k1)
theorem sim_CBN {K mg G E} {t : TA} {f} {r : List V → Hp → VK → Prop} {g} (h : ASim K mg G E t f) (hr : RAN K mg E r g) : NSim K mg G E (tCB r t) (mArgs g f) := fun w ρ σ Q I q => by
  refine h w ρ σ _ I (Good.imp (Good.bind1 q) (fun xs S1 h1 => ?_) fun _ _ _ h => h)
  intro w1 vs e1 s1 k1 r1
  subst e1
  exact hr w1 xs vs Q k1 r1 (Good.imp h1 (fun _ _ h => h.step s1 I.ok k1) fun _ _ _ h => h.step s1 I.ok k1)
theorem fe_callB {id : String} {x : Str} {p pos e es t f r g} (hc : CallR X (.builtin id) r) (hr : RASim X.K X.mg E r g) (hm : X.mg x = none) (ha : FA X G E (e :: es) t f) (hg : Gl X x := by rfl) (hv : bootBuiltins x = some (.builtin id) := by decide +kernel) (hn : x ≠ "__name__" := by decide) (hdb : (x == ("__debug__" : Str)) = false := by decide)
    (he : starEach (e :: es) X.env = (false, eval e X.env) :: starEach es X.env := by rfl) (hpl : (backTo pos (starEach es X.env)).any (·.1) = false := by rfl) : FE X G E (.Call (.Name x p) (e :: es) [] pos) (tCB r t) (mArgs g f) :=
  ⟨pe_callB hc hg hm hv ha.pe hn hdb he hpl, sim_CB ha.sim hr⟩
theorem fe_callTy {T : String} {x : Str} {p pos e es t f r g} (hc : CallR X (.type T) r) (hr : RASim X.K X.mg E r g) (hm : X.mg x = none) (ha : FA X G E (e :: es) t f) (hg : Gl X x := by rfl) (hv : bootBuiltins x = some (.type T) := by decide +kernel) (hn : x ≠ "__name__" := by decide) (hdb : (x == ("__debug__" : Str)) = false := by decide)
    (he : starEach (e :: es) X.env = (false, eval e X.env) :: starEach es X.env := by rfl) (hpl : (backTo pos (starEach es X.env)).any (·.1) = false := by rfl) : FE X G E (.Call (.Name x p) (e :: es) [] pos) (tCB r t) (mArgs g f) :=
  ⟨pe_callTy hc hg hm hv ha.pe hn hdb he hpl, sim_CB ha.sim hr⟩
theorem fn_callTy {T : String} {x : Str} {p pos e es t f r g} (hc : CallR X (.type T) r) (hr : RAN X.K X.mg E r g) (hm : X.mg x = none) (ha : FA X G E (e :: es) t f) (hg : Gl X x := by rfl) (hv : bootBuiltins x = some (.type T) := by decide +kernel) (hn : x ≠ "__name__" := by decide) (hdb : (x == ("__debug__" : Str)) = false := by decide)
    (he : starEach (e :: es) X.env = (false, eval e X.env) :: starEach es X.env := by rfl) (hpl : (backTo pos (starEach es X.env)).any (·.1) = false := by rfl) : FN X G E (.Call (.Name x p) (e :: es) [] pos) (tCB r t) (mArgs g f) :=
  ⟨pe_callTy hc hg hm hv ha.pe hn hdb he hpl, sim_CBN ha.sim hr⟩
/-! subscripts -/
theorem fe_ix {a b pos ta tb fa fb} {r : R2} {g} (hr : IxR X r) (hs : R2Sim X.K X.mg E r g) (ha : FE X G E a ta fa) (hb : FE X G E b tb fb) (hp : PlainIx b := by exact fun _ _ => rfl) : FE X G E (.Subscript a b pos) (tOp r ta tb) (mOp g fa fb) := ⟨pe_ix hr ha.pe hb.pe hp, sim_op ha.sim hb.sim hs⟩
def mSl {α : Type} (g : PV → Option Int → Option Int → Store → Res α) (a : Rho → Store → Res PV) (l h : Rho → Store → Res (Option Int)) : Rho → Store → Res α := fun ρ S => (a ρ S).bind fun x S1 => (l ρ S1).bind fun i S2 => (h ρ S2).bind fun j S3 => g x i j S3
def RSl (K : PySem.W.Frag) (mg : Str → Option Value) (E : XK) (r : V → Option Int → Option Int → Hp → VK → Prop) (g : PV → Option Int → Option Int → Store → Res PV) : Prop := ∀ w x v i j Q, WOk K w → RV K w.L w.hc x v → Good (g x i j w.S) (PostV K w Q) (ExP K mg E w) → r v i j w.H Q
theorem fe_slice {e lo hi p2 pos te tl th f fl fh r g} (hr : SlR X r) (hs : RSl X.K X.mg E r g) (he : FE X G E e te f) (hl : FO X G E lo tl fl) (hh : FO X G E hi th fh) : FE X G E (.Subscript e (.Slice lo hi none p2) pos) (tSl r te tl th) (mSl g f fl fh) := ⟨pe_slice hr he.pe hl.pe hh.pe, fun w ρ σ Q I h => by
  refine he.sim w ρ σ _ I (Good.imp (Good.bind1 h) (fun x S1 h1 => ?_) fun _ _ _ h => h)
  intro w1 v e1 s1 k1 r1
  subst e1
  have I1 := I.step s1 k1
  refine hl.sim w1 ρ σ _ I1 (Good.imp (Good.bind1 h1) (fun i S2 h2 => ?_) fun _ _ _ h => h.step s1 I.ok k1)
  intro w2 e2 s2 k2
  subst e2
  have I2 := I1.step s2 k2
  have s12 := s1.tr s2 I.ok k1
  refine hh.sim w2 ρ σ _ I2 (Good.imp (Good.bind1 h2) (fun j S3 h3 => ?_) fun _ _ _ h => h.step s12 I.ok k2)
  intro w3 e3 s3 k3
  subst e3
  have s13 := s12.tr s3 I.ok k2
  exact hs w3 x v i j Q k3 (r1.mono (s2.pre.trans s3.pre) fun a o q => s3.ext k2.sub a o (s2.ext k1.sub a o q)) (Good.imp h3 (fun _ _ h => h.step s13 I.ok k3) fun _ _ _ h => h.step s13 I.ok k3)⟩
end
end Mir
set_option maxHeartbeats 4000000
/-! Mir2: statements, loops, comprehensions, defs. -/
namespace Mir
open PySem PySem.Spec PyProof.Rows L2

inductive Out where
  | nx (ρ : Rho) | rt (x : PV) | bk (ρ : Rho) | ct (ρ : Rho)
section
variable (K : PySem.W.Frag) (mg : Str → Option Value) (G : Wd) (E : XK)
def PostR (w : Wd) (Q : L2.St → Hp → Prop) : Rho → Store → Prop := fun ρ' S' => ∀ w' σ', w'.S = S' → VStep w w' → FI K G w' ρ' σ' → Q σ' w'.H
def PostX (Q : VK) : PV → Store → Prop := fun x S' => ∀ w' v, w'.S = S' → WStep G w' → WOk K w' → RV K w'.L (cut w'.H (G.O ++ w'.L)) x v → Q v w'.H
def PostS (w : Wd) (D : Ends) : Out → Store → Prop
  | .nx ρ', S' => PostR K G w D.nx ρ' S'
  | .bk ρ', S' => PostR K G w D.bk ρ' S'
  | .ct ρ', S' => PostR K G w D.ct ρ' S'
  | .rt x, S' => PostX K G D.rt x S'
def SSim (ts : TS) (f : Rho → Store → Res Out) : Prop := ∀ w ρ σ D, FI K G w ρ σ → Good (f ρ w.S) (PostS K G w D) (ExP K mg E G) → ts D σ w.H
def GSim (g : TG) (f : PV → Rho → Store → Res Rho) : Prop := ∀ w ρ σ x v Q, FI K G w ρ σ → RV K w.L w.hc x v → Good (f x ρ w.S) (PostR K G w Q) (ExP K mg E G) → g v σ w.H Q
end
theorem PostR.step {K G} {w w1 : Wd} {Q : L2.St → Hp → Prop} {ρ S} (s : VStep w w1) (h : PostR K G w Q ρ S) : PostR K G w1 Q ρ S := fun w' σ' e s' I => h w' σ' e (s.trans s') I
theorem PostS.step {K G} {w w1 : Wd} {D : Ends} {o S} (s : VStep w w1) (h : PostS K G w D o S) : PostS K G w1 D o S := by
  cases o with
  | nx ρ => exact PostR.step s h
  | bk ρ => exact PostR.step s h
  | ct ρ => exact PostR.step s h
  | rt x => exact h
variable (X : Cx) (G : Wd) (E : XK) in
structure FS (st : Stmt) (ts : TS) (f : Rho → Store → Res Out) : Prop where
  pe : PS X st ts
  sim : SSim X.K X.mg G E ts f
variable (X : Cx) (G : Wd) (E : XK) in
structure FSs (st : List Stmt) (ts : TS) (f : Rho → Store → Res Out) : Prop where
  pe : PSs X st ts
  sim : SSim X.K X.mg G E ts f
variable (X : Cx) (G : Wd) (E : XK) in
structure FG (e : Expr) (g : TG) (f : PV → Rho → Store → Res Rho) : Prop where
  pe : PG X e g
  sim : GSim X.K X.mg G E g f

/-! ### lemmas on worlds -/
section
variable {K : PySem.W.Frag} {G w w' : Wd} {ρ : Rho} {σ : L2.St} {p : Addr} {ho : HO} {o : SO}
theorem upd_cut {H : Hp} {O : List Addr} (h : p ∈ O) : cut (upd H p ho) O = cut H O := by
  funext a
  by_cases m : a ∈ O
  · rw [cut_in m, cut_in m]
  · rw [cut_out m, cut_out m, upd_ne fun e => m (by rw [e]; exact h)]
/-- an object that is cut, and no shared one, is written -/
def Wd.wr (w : Wd) (p : Addr) (ho : HO) : Wd := { w with H := upd w.H p ho }
theorem wr_hc (h : p ∈ w.O) : (w.wr p ho).hc = w.hc := upd_cut h
theorem wr_ok (k : WOk K w) (hO : p ∈ w.O) (hL : p ∉ w.L) : WOk K (w.wr p ho) := by
  refine ⟨k.sub, k.nd, k.len, fun n u a h1 h2 => ?_, fun a h => ?_⟩
  · have na : a ≠ p := fun e => hL (e ▸ List.mem_of_getElem? h2)
    rw [wr_hc hO]
    show SOk K w.L w.hc (upd w.H p ho a) u
    rw [upd_ne na]
    exact k.st n u a h1 h2
  · obtain ⟨u, e⟩ := k.dom a h
    by_cases q : a = p
    · subst q; exact ⟨ho, upd_same⟩
    · exact ⟨u, by show upd w.H p ho a = some u; rw [upd_ne q]; exact e⟩
theorem wr_step (s : WStep G w) (hn : G.H p = none) : WStep G (w.wr p ho) :=
  ⟨s.pre, fun a u h n => by show upd w.H p ho a = some u; rw [upd_ne (ne_of_none h hn)]; exact s.keep a u h n, s.omono, s.oset, s.lset⟩
theorem wr_v (hO : p ∈ w.O) : VStep w (w.wr p ho) := ⟨List.prefix_refl _, fun a u h => by rw [wr_hc hO]; exact h⟩
/-- .. a slot's own object -/
theorem FI.wrOwn {i : Nat} {oi : SO} (I : FI K G w ρ σ) (hi : ρ[i]? = some (.own oi)) (hσ : σ[i]? = some (some (.ref p))) (hO : p ∈ w.O) (hL : p ∉ w.L) (hn : G.H p = Option.none) (r : SOk K w.L w.hc (some ho) o) : FI K G (w.wr p ho) (ρ.set i (.own o)) σ := by
  refine ⟨I.gok, wr_ok I.ok hO hL, wr_step I.stp hn, by simpa using I.len, fun j y h => ?_, fun j oj h => ?_, fun j k oj ok' n h1 h2 => ?_, fun j c fs h => ?_⟩
  · rcases set_get h with ⟨rfl, e⟩ | ⟨n, h⟩
    · cases e
    · rw [wr_hc hO]; exact I.val j y h
  · rw [wr_hc hO]
    rcases set_get h with ⟨rfl, e⟩ | ⟨n, h⟩
    · cases e
      exact ⟨p, hσ, hO, hL, hn, by show SOk K w.L w.hc (upd w.H p ho p) o; rw [upd_same]; exact r⟩
    · obtain ⟨q, a, b, c, d, e⟩ := I.own j oj h
      have nq : q ≠ p := fun z => I.dis j i oj oi n h hi (by rw [a, hσ, z])
      exact ⟨q, a, b, c, d, by show SOk K w.L w.hc (upd w.H p ho q) oj; rw [upd_ne nq]; exact e⟩
  · have hl := get_lt hi
    have own_at : ∀ (k : Nat) (u : SO), (ρ.set i (Slot.own o))[k]? = some (Slot.own u) → ∃ u' : SO, ρ[k]? = some (Slot.own u') := fun k u h => by
      rcases set_get h with ⟨rfl, _⟩ | ⟨_, h⟩
      · exact ⟨_, hi⟩
      · exact ⟨_, h⟩
    obtain ⟨u1, e1⟩ := own_at j _ h1
    obtain ⟨u2, e2⟩ := own_at k _ h2
    exact I.dis j k u1 u2 n e1 e2
  · rcases set_get h with ⟨rfl, e⟩ | ⟨n, h⟩
    · cases e
    · rw [wr_hc hO]; exact I.pin j c fs h
/-- a new own object is stored in a slot -/
theorem FI.setOwn {i : Nat} {w0 : Wd} (I0 : FI K G w0 ρ σ) (s : WStep w0 w) (k : WOk K w) (hn : w0.H p = none) (hO : p ∈ w.O) (hL : p ∉ w.L) (r : SOk K w.L w.hc (w.H p) o) : FI K G w (ρ.set i (.own o)) (σ.set i (some (.ref p))) := by
  have I := I0.step s k
  have hg : G.H p = Option.none := by
    cases q : G.H p with
    | none => rfl
    | some u =>
      by_cases z : p ∈ G.L
      · obtain ⟨u', e⟩ := I0.ok.domL p (I0.stp.pre.subset z)
        rw [hn] at e; cases e
      · rw [I0.stp.keep p u q z] at hn; cases hn
  have far : ∀ (j : Nat) (oj : SO), ρ[j]? = some (Slot.own oj) → σ[j]? ≠ some (some (V.ref p)) := fun j oj h e => by
    obtain ⟨q, a, b, _⟩ := I0.own j oj h
    rw [a] at e
    cases e
    exact I0.ok.nin hn b
  refine ⟨I.gok, I.ok, I.stp, by simpa using I.len, fun j y h => ?_, fun j oj h => ?_, fun j k oj ok' n h1 h2 => ?_, fun j c fs h => ?_⟩
  · rcases set_get h with ⟨rfl, e⟩ | ⟨n, h⟩
    · cases e
    · obtain ⟨v', a, b⟩ := I.val j y h
      exact ⟨v', by rw [List.getElem?_set_ne (Ne.symm n)]; exact a, b⟩
  · rcases set_get h with ⟨rfl, e⟩ | ⟨n, h⟩
    · cases e
      have := get_lt h
      exact ⟨p, by rw [List.getElem?_set_self (by rw [I.len]; simpa using this)], hO, hL, hg, r⟩
    · obtain ⟨q, a, b⟩ := I.own j oj h
      exact ⟨q, by rw [List.getElem?_set_ne (Ne.symm n)]; exact a, b⟩
  · rcases set_get h1 with ⟨rfl, e⟩ | ⟨n1, h1'⟩
    · rcases set_get h2 with ⟨e2, _⟩ | ⟨n2, h2'⟩
      · exact absurd e2.symm n
      · have := get_lt h1
        rw [List.getElem?_set_self (by rw [I.len]; simpa using this), List.getElem?_set_ne (Ne.symm n2)]
        exact fun e => far k ok' h2' e.symm
    · rcases set_get h2 with ⟨rfl, e⟩ | ⟨n2, h2'⟩
      · have := get_lt h2
        rw [List.getElem?_set_self (by rw [I.len]; simpa using this), List.getElem?_set_ne (Ne.symm n1)]
        exact far j oj h1'
      · rw [List.getElem?_set_ne (Ne.symm n1), List.getElem?_set_ne (Ne.symm n2)]
        exact I.dis j k oj ok' n h1' h2'
  · rcases set_get h with ⟨rfl, e⟩ | ⟨n, h⟩
    · cases e
    · obtain ⟨a, d, P, vs, h1, h2, h3⟩ := I.pin j c fs h
      exact ⟨a, d, P, vs, h1, by rw [List.getElem?_set_ne (Ne.symm n)]; exact h2, h3⟩
/-- a slot's own object is not changed any more -/
theorem FI.frzOwn {i : Nat} (I : FI K G w ρ σ) (hi : ρ[i]? = some (.own o)) (hσ : σ[i]? = some (some (.ref p))) (hO : p ∈ w.O) (hL : p ∉ w.L) (hn : G.H p = Option.none) (r : SOk K w.L w.hc (w.H p) o) :
    FI K G (w.freeze p) (ρ.set i (.val (frz o))) σ := by
  refine ⟨I.gok, freeze_ok I.ok hL, freeze_step I.stp (I.gok.nin hn), by simpa using I.len, fun j y h => ?_, fun j oj h => ?_, fun j k oj ok' n h1 h2 => ?_, fun j c fs h => ?_⟩
  · rcases set_get h with ⟨rfl, e⟩ | ⟨n, h⟩
    · cases e
      exact ⟨_, hσ, freeze_rv r⟩
    · obtain ⟨v', a, b⟩ := I.val j y h
      exact ⟨v', a, b.mono (List.prefix_refl _) freeze_ext⟩
  · rcases set_get h with ⟨rfl, e⟩ | ⟨n, h⟩
    · cases e
    · obtain ⟨q, a, b, c, d, e⟩ := I.own j oj h
      have nq : q ≠ p := fun z => I.dis j i oj o n h hi (by rw [a, hσ, z])
      exact ⟨q, a, freeze_O.mpr ⟨b, nq⟩, c, d, e.mono (List.prefix_refl _) freeze_ext⟩
  · rcases set_get h1 with ⟨rfl, e⟩ | ⟨n1, h1'⟩
    · cases e
    · rcases set_get h2 with ⟨rfl, e⟩ | ⟨n2, h2'⟩
      · cases e
      · exact I.dis j k oj ok' n h1' h2'
  · rcases set_get h with ⟨rfl, e⟩ | ⟨n, h⟩
    · cases e
    · obtain ⟨a, d, P, vs, h1, h2, h3, h4, h5⟩ := I.pin j c fs h
      exact ⟨a, d, P, vs, h1, h2, h3, freeze_ext _ _ h4, h5.mono (List.prefix_refl _) freeze_ext⟩
theorem freeze_v : VStep w (w.freeze p) := ⟨List.prefix_refl _, freeze_ext⟩
/-- a shared object is written -/
def Wd.put2 (w : Wd) (p : Addr) (ho : HO) (n : Nat) (o : SO) : Wd := { w with H := upd w.H p ho, S := w.S.set n o }
theorem put2_ok {n : Nat} (k : WOk K w) (hp : w.L[n]? = some p) (r : SOk K w.L w.hc (some ho) o) : WOk K (w.put2 p ho n o) := by
  have hL : p ∈ w.L := List.mem_of_getElem? hp
  have hO := k.sub p hL
  have eq : (w.put2 p ho n o).hc = w.hc := upd_cut hO
  refine ⟨k.sub, k.nd, by show (w.S.set n o).length = _; rw [List.length_set]; exact k.len, fun m u a h1 h2 => ?_, fun a h => ?_⟩
  · rw [eq]
    show SOk K w.L w.hc (upd w.H p ho a) u
    rcases set_get h1 with ⟨rfl, e⟩ | ⟨ne, h1⟩
    · rw [show w.L[m]? = some a from h2] at hp
      cases hp
      rw [upd_same, e]
      exact r
    · have na : a ≠ p := fun e => by
        subst e
        obtain ⟨l1, e1⟩ := List.getElem?_eq_some_iff.mp (show w.L[m]? = some a from h2)
        obtain ⟨l2, e2⟩ := List.getElem?_eq_some_iff.mp hp
        exact ne ((List.getElem_inj k.nd).mp (e1.trans e2.symm))
      rw [upd_ne na]
      exact k.st m u a h1 h2
  · obtain ⟨u, e⟩ := k.dom a h
    by_cases q : a = p
    · subst q; exact ⟨ho, upd_same⟩
    · exact ⟨u, by show upd w.H p ho a = some u; rw [upd_ne q]; exact e⟩
theorem put2_step {n : Nat} (k : WOk K w) (hp : w.L[n]? = some p) : WStep w (w.put2 p ho n o) :=
  ⟨List.prefix_refl _, fun a u h na => by
    show upd w.H p ho a = some u
    rw [upd_ne fun e => na (by rw [e]; exact List.mem_of_getElem? hp)]; exact h, fun _ h => h, fun _ h => .inl h, fun _ h => .inl h⟩
/-- an object of ours becomes a shared one -/
def Wd.share (w : Wd) (p : Addr) (o : SO) : Wd := { w with L := w.L ++ [p], S := w.S ++ [o] }
theorem share_ok (k : WOk K w) (hO : p ∈ w.O) (hL : p ∉ w.L) (r : SOk K w.L w.hc (w.H p) o) : WOk K (w.share p o) := by
  have pre : w.L <+: w.L ++ [p] := List.prefix_append _ _
  refine ⟨fun a h => ?_, ?_, by show (w.S ++ [o]).length = (w.L ++ [p]).length; rw [List.length_append, List.length_append, k.len]; rfl, fun n u a h1 h2 => ?_, k.dom⟩
  · rcases List.mem_append.mp h with h | h
    · exact k.sub a h
    · rw [List.mem_singleton.mp h]; exact hO
  · refine List.nodup_append.mpr ⟨k.nd, by simp, fun a ha b hb e => ?_⟩
    rw [List.mem_singleton.mp hb] at e
    exact hL (e ▸ ha)
  · have h1 : (w.S ++ [o])[n]? = some u := h1
    have h2 : (w.L ++ [p])[n]? = some a := h2
    by_cases q : n < w.S.length
    · rw [List.getElem?_append_left q] at h1
      rw [List.getElem?_append_left (by rw [← k.len]; exact q)] at h2
      exact (k.st n u a h1 h2).mono pre fun _ _ h => h
    · rw [List.getElem?_append_right (Nat.le_of_not_lt q)] at h1
      rw [List.getElem?_append_right (by rw [← k.len]; exact Nat.le_of_not_lt q)] at h2
      have q0 : n - w.S.length = 0 := by
        have := get_lt h1
        simp at this; omega
      rw [q0] at h1
      rw [← k.len, q0] at h2
      cases h1; cases h2
      exact r.mono pre fun _ _ h => h
theorem share_step {w0 : Wd} (s : WStep w0 w) (hn : w0.H p = none) : WStep w0 (w.share p o) :=
  ⟨s.pre.trans (List.prefix_append _ _), s.keep, s.omono, s.oset, fun a h => by
    rcases List.mem_append.mp h with h | h
    · exact s.lset a h
    · rw [List.mem_singleton.mp h]; exact .inr hn⟩
theorem share_rv (k : WOk K w) : RV K (w.share p o).L (w.share p o).hc (.obj w.S.length) (.ref p) := ⟨p, rfl, by
  show (w.L ++ [p])[w.S.length]? = some p
  rw [k.len, List.getElem?_append_right (Nat.le_refl _), Nat.sub_self]
  rfl⟩
/-- an address of ours is none of the callers' -/
theorem cut_ret {x : PV} {v : V} (s : WStep G w) (k : WOk K w) (r : RV K w.L w.hc x v) : RV K w.L (cut w.H (G.O ++ w.L)) x v := r.mono (List.prefix_refl _) fun a u h => by
  obtain ⟨h1, h2⟩ := cut_some h
  rw [cut_out fun z => h1 ((List.mem_append.mp z).elim (s.omono a) (k.sub a))]
  exact h2
end

/-! ### targets -/
def gNm (i : Nat) : PV → Rho → Store → Res Rho := fun x ρ S => .ok (ρ.set i (.val x)) S
theorem fg_name {X : Cx} {G : Wd} {E : XK} {i : Nat} {x : Str} {pos : Pos} (h : PG X (.Name x pos) (gName i)) : FG X G E (.Name x pos) (gName i) (gNm i) := ⟨h, fun w ρ σ x v Q I r g => g w (σ.set i (some v)) rfl (VStep.refl w) (I.set r)⟩
def GsSim (K : PySem.W.Frag) (mg : Str → Option Value) (G : Wd) (E : XK) (g : TGs) (f : List PV → Rho → Store → Res Rho) : Prop := ∀ w ρ σ xs vs Q, FI K G w ρ σ → RVs K w.L w.hc xs vs → Good (f xs ρ w.S) (PostR K G w Q) (ExP K mg E G) → g vs σ w.H Q
variable (X : Cx) (G : Wd) (E : XK) in
structure FGs (es : List Expr) (g : TGs) (f : List PV → Rho → Store → Res Rho) : Prop where
  pe : PGs X es g
  sim : GsSim X.K X.mg G E g f
def gsNil : List PV → Rho → Store → Res Rho
  | [], ρ, S => .ok ρ S
  | _, _, _ => .bad
def gsCons (f : PV → Rho → Store → Res Rho) (g : List PV → Rho → Store → Res Rho) : List PV → Rho → Store → Res Rho
  | x :: xs, ρ, S => (f x ρ S).bind fun ρ' S' => g xs ρ' S'
  | _, _, _ => .bad
def gTupM (n : Nat) (g : List PV → Rho → Store → Res Rho) : PV → Rho → Store → Res Rho
  | .tup xs, ρ, S => if xs.length = n then g xs ρ S else .bad
  | _, _, _ => .bad
theorem fgs_nil {X : Cx} {G : Wd} {E : XK} : FGs X G E [] gNil gsNil := ⟨pgs_nil, fun w ρ σ xs vs Q I r g => by
  cases xs with
  | nil => exact ⟨r, g w σ rfl (VStep.refl w) I⟩
  | cons x xs => exact g.elim⟩
theorem fgs_cons {X : Cx} {G : Wd} {E : XK} {e es t u f g} (h1 : FG X G E e t f) (h2 : FGs X G E es u g) (pe : PGs X (e :: es) (gCons t u) := by exact pgs_cons (h1.pe) (h2.pe)) : FGs X G E (e :: es) (gCons t u) (gsCons f g) := ⟨pe, fun w ρ σ xs vs Q I r q => by
  cases xs with
  | nil => exact q.elim
  | cons x xs =>
    obtain ⟨v, rs, rfl, r1, r2⟩ := r
    refine ⟨v, rs, rfl, h1.sim w ρ σ x v _ I r1 (Good.imp (Good.bind1 q) (fun ρ1 S1 q1 => ?_) fun _ _ _ h => h)⟩
    intro w1 σ1 e1 s1 I1
    subst e1
    exact h2.sim w1 ρ1 σ1 xs rs Q I1 (r2.mono s1.pre s1.ext) (Good.imp q1 (fun _ _ h => h.step s1) fun _ _ _ h => h)⟩
theorem fg_tup {X : Cx} {G : Wd} {E : XK} {es k t pos f} {n : Nat} (h : FGs X G E es t f) (pe : PG X (.Tuple es k pos) (L2.gTup X.K n t)) : FG X G E (.Tuple es k pos) (L2.gTup X.K n t) (gTupM n f) := ⟨pe, fun w ρ σ x v Q I r q => by
  cases x <;> first | exact q.elim | skip
  rename_i xs
  obtain ⟨a, vs, rfl, r1, r2⟩ := r
  obtain ⟨hn, q⟩ := good_if q
  exact ⟨a, vs, rfl, sqT_mono (fun a o h => (cut_some h).2) r1, r2.len.trans hn, h.sim w ρ σ xs vs Q I r2 q⟩⟩
end Mir
set_option maxHeartbeats 4000000
/-! Mir3: statements, loops, comprehensions, defs. -/
namespace Mir
open PySem PySem.Spec PyProof.Rows L2

/-! ### mirrors of statements -/
def mSet (i : Nat) (f : Rho → Store → Res PV) : Rho → Store → Res Out := fun ρ S => (f ρ S).bind fun x S1 => .ok (.nx (ρ.set i (.val x))) S1
def mSetOwn (i : Nat) (f : Rho → Store → Res SO) : Rho → Store → Res Out := fun ρ S => (f ρ S).bind fun o S1 => .ok (.nx (ρ.set i (.own o))) S1
def mShare (i : Nat) (f : Rho → Store → Res SO) : Rho → Store → Res Out := fun ρ S => (f ρ S).bind fun o S1 => .ok (.nx (ρ.set i (.val (.obj S1.length)))) (S1 ++ [o])
def mAsg (f : Rho → Store → Res PV) (g : PV → Rho → Store → Res Rho) : Rho → Store → Res Out := fun ρ S => (f ρ S).bind fun x S1 => (g x ρ S1).bind fun ρ' S2 => .ok (.nx ρ') S2
def mDrop (f : Rho → Store → Res PV) : Rho → Store → Res Out := fun ρ S => (f ρ S).bind fun _ S1 => .ok (.nx ρ) S1
def mRet (f : Rho → Store → Res PV) : Rho → Store → Res Out := fun ρ S => (f ρ S).bind fun x S1 => .ok (.rt x) S1
def mRetOwn (i : Nat) : Rho → Store → Res Out := fun ρ S => match ρ[i]? with
  | some (.own o) => .ok (.rt (frz o)) S
  | _ => .bad
def mSkip : Rho → Store → Res Out := fun ρ S => .ok (.nx ρ) S
def mBrk : Rho → Store → Res Out := fun ρ S => .ok (.bk ρ) S
def mCnt : Rho → Store → Res Out := fun ρ S => .ok (.ct ρ) S
def mSeq (f g : Rho → Store → Res Out) : Rho → Store → Res Out := fun ρ S => (f ρ S).bind fun o S1 => match o with
  | .nx ρ' => g ρ' S1
  | o => .ok o S1
def mIfS (c : Rho → Store → Res Bool) (f g : Rho → Store → Res Out) : Rho → Store → Res Out := fun ρ S => (c ρ S).bind fun k S1 => if k then f ρ S1 else g ρ S1
def frzAt (i : Nat) (ρ : Rho) : Rho := match ρ[i]? with
  | some (.own o) => ρ.set i (.val (frz o))
  | _ => ρ
def mFrzS (i : Nat) (f : Rho → Store → Res Out) : Rho → Store → Res Out := fun ρ S => f (frzAt i ρ) S
/-- x.append(e), x a list of ours or a shared one -/
def mAppend (i : Nat) (f : Rho → Store → Res PV) : Rho → Store → Res Out := fun ρ S => match ρ[i]? with
  | some (.own _) => (f ρ S).bind fun y S1 => match ρ[i]? with
    | some (.own (.lst xs)) => if xs.length < sizeM then .ok (.nx (ρ.set i (.own (.lst (xs ++ [y]))))) S1 else .bad
    | _ => .bad
  | _ => .bad
def setIx (i : Nat) (xs : List PV) (y : PV) (ρ : Rho) : PV → Store → Res Out
  | .int k, S => match ixN xs.length k with
    | some j => .ok (.nx (ρ.set i (.own (.lst (xs.set j y))))) S
    | none => .bad
  | _, _ => .bad
def setIxO (n : Nat) (y : PV) (ρ : Rho) : PV → Store → Res Out
  | .int k, S => match S[n]? with
    | some (.lst xs) => match ixN xs.length k with
      | some j => .ok (.nx ρ) (S.set n (.lst (xs.set j y)))
      | none => .bad
    | none => .bad
  | _, _ => .bad
/-- x[k] = e, x a list of ours, or a shared one -/
def mSetIx (i : Nat) (fk f : Rho → Store → Res PV) : Rho → Store → Res Out := fun ρ S => (f ρ S).bind fun y S1 => match ρ[i]? with
  | some (.own (.lst xs)) => (fk ρ S1).bind fun k S2 => setIx i xs y ρ k S2
  | some (.val (.obj n)) => (fk ρ S1).bind fun k S2 => setIxO n y ρ k S2
  | _ => .bad
def mForGo (g : PV → Rho → Store → Res Rho) (b : Rho → Store → Res Out) : List PV → Rho → Store → Res Out
  | [], ρ, S => .ok (.nx ρ) S
  | x :: xs, ρ, S => (g x ρ S).bind fun ρ1 S1 => (b ρ1 S1).bind fun o S2 => match o with
    | .nx ρ2 => mForGo g b xs ρ2 S2
    | .ct ρ2 => mForGo g b xs ρ2 S2
    | .bk ρ2 => .ok (.nx ρ2) S2
    | .rt x => .ok (.rt x) S2
def mFor (it : Rho → Store → Res (List PV)) (g : PV → Rho → Store → Res Rho) (b : Rho → Store → Res Out) : Rho → Store → Res Out := fun ρ S => (it ρ S).bind fun xs S1 => mForGo g b xs ρ S1
def mWhileGo (c : Rho → Store → Res Bool) (b : Rho → Store → Res Out) : Nat → Rho → Store → Res Out
  | 0, _, _ => .bad
  | n + 1, ρ, S => (c ρ S).bind fun k S1 => if k then (b ρ S1).bind fun o S2 => match o with
      | .nx ρ2 => mWhileGo c b n ρ2 S2
      | .ct ρ2 => mWhileGo c b n ρ2 S2
      | .bk ρ2 => .ok (.nx ρ2) S2
      | .rt x => .ok (.rt x) S2
    else .ok (.nx ρ) S1
def mWhile (n : Nat) (c : Rho → Store → Res Bool) (b : Rho → Store → Res Out) : Rho → Store → Res Out := fun ρ S => mWhileGo c b n ρ S
def mWipe (ρ : Rho) : List Nat → Rho
  | [] => ρ
  | v :: vs => (mWipe ρ vs).set v .none
def mLcGo (g : PV → Rho → Store → Res Rho) (t : Rho → Store → Res Bool) (e : Rho → Store → Res PV) (ρ : Rho) : List PV → Store → Res (List PV)
  | [], S => .ok [] S
  | x :: xs, S => (g x ρ S).nox.bind fun ρ1 S1 => (t ρ1 S1).nox.bind fun k S2 => if k then (e ρ1 S2).nox.bind fun y S3 => (mLcGo g t e ρ xs S3).bind fun ys S4 => .ok (y :: ys) S4 else mLcGo g t e ρ xs S2
def mLc (it : Rho → Store → Res (List PV)) (g : PV → Rho → Store → Res Rho) (t : Rho → Store → Res Bool) (e : Rho → Store → Res PV) (vs : List Nat) : Rho → Store → Res SO := fun ρ S =>
  (it ρ S).bind fun xs S1 => if xs.length ≤ sizeM then (mLcGo g t e (mWipe ρ vs) xs S1).bind fun ys S2 => .ok (.lst ys) S2 else .bad
def mTrue : Rho → Store → Res Bool := fun _ S => .ok true S
/-- the items that a for walks -/
def toSeq : PV → Store → Res (List PV)
  | .tup xs, S => .ok xs S
  | .lst xs, S => .ok xs S
  | .cl xs, S => .ok xs S
  | _, _ => .bad
def mSeqOf (f : Rho → Store → Res PV) : Rho → Store → Res (List PV) := fun ρ S => (f ρ S).bind toSeq
def range62 (i : Int) : Bool := decide (-4611686018427387904 ≤ i) && decide (i < 4611686018427387904)
def gRange1 : List PV → Store → Res (List PV)
  | [.int j], S => if range62 j = true then .ok ((List.range j.toNat).map fun (k : Nat) => PV.int (k : Int)) S else .bad
  | _, _ => .bad
def gRange2 : List PV → Store → Res (List PV)
  | [.int i, .int j], S => if (range62 i && range62 j) = true then .ok ((List.range (j - i).toNat).map fun (k : Nat) => PV.int (i + (k : Int))) S else .bad
  | _, _ => .bad
def mRange (g : List PV → Store → Res (List PV)) (f : Rho → Store → Res (List PV)) : Rho → Store → Res (List PV) := fun ρ S => (f ρ S).bind g

section
variable {X : Cx} {G : Wd} {E : XK} {K : PySem.W.Frag} {mg : Str → Option Value}
theorem sim_set {te f} {i : Nat} (h : ESim K mg G E te f) : SSim K mg G E (tAsg te (gName i)) (mSet i f) := fun w ρ σ D I q => by
  refine h w ρ σ _ I (Good.imp (Good.bind1 q) (fun x S1 h1 => ?_) fun _ _ _ h => h.step I.stp I.gok I.ok)
  intro w1 v e1 s1 k1 r1
  exact h1 w1 (σ.set i (some v)) e1 (s1.v I.ok.sub) ((I.step s1 k1).set r1)
theorem sim_setOwn {te f} {i : Nat} (h : NSim K mg G E te f) : SSim K mg G E (tAsg te (gName i)) (mSetOwn i f) := fun w ρ σ D I q => by
  refine h w ρ σ _ I (Good.imp (Good.bind1 q) (fun x S1 h1 => ?_) fun _ _ _ h => h.step I.stp I.gok I.ok)
  intro w1 p e1 s1 k1 n1 o1 l1 r1
  exact h1 w1 (σ.set i (some (.ref p))) e1 (s1.v I.ok.sub) (FI.setOwn I s1 k1 n1 o1 l1 r1)
theorem sim_share {te f} {i : Nat} (h : NSim K mg G E te f) : SSim K mg G E (tAsg te (gName i)) (mShare i f) := fun w ρ σ D I q => by
  refine h w ρ σ _ I (Good.imp (Good.bind1 q) (fun x S1 h1 => ?_) fun _ _ _ h => h.step I.stp I.gok I.ok)
  intro w1 p e1 s1 k1 n1 o1 l1 r1
  have s2 := share_step (o := x) s1 n1
  have k2 := share_ok k1 o1 l1 r1
  refine h1 (w1.share p x) (σ.set i (some (.ref p))) ?_ (s2.v I.ok.sub) ((I.step s2 k2).set ?_)
  · show w1.S ++ [x] = S1 ++ [x]
    rw [e1]
  · rw [← e1]
    exact share_rv k1
theorem sim_asg {te f g fg} (h : ESim K mg G E te f) (hg : GSim K mg G E g fg) : SSim K mg G E (tAsg te g) (mAsg f fg) := fun w ρ σ D I q => by
  refine h w ρ σ _ I (Good.imp (Good.bind1 q) (fun x S1 h1 => ?_) fun _ _ _ h => h.step I.stp I.gok I.ok)
  intro w1 v e1 s1 k1 r1
  subst e1
  exact hg w1 ρ σ x v D.nx (I.step s1 k1) r1 (Good.imp (Good.bind1 h1) (fun ρ' S2 h2 => PostR.step (s1.v I.ok.sub) h2) fun _ _ _ h => h)
theorem fs_set {i : Nat} {x : Str} {pos' pos e te f} (he : FE X G E e te f) (pe : PS X (.Assign [.Name x pos'] e pos) (tAsg te (gName i))) : FS X G E (.Assign [.Name x pos'] e pos) (tAsg te (gName i)) (mSet i f) := ⟨pe, sim_set he.sim⟩
theorem fs_own {i : Nat} {x : Str} {pos' pos e te f} (he : FN X G E e te f) (pe : PS X (.Assign [.Name x pos'] e pos) (tAsg te (gName i))) : FS X G E (.Assign [.Name x pos'] e pos) (tAsg te (gName i)) (mSetOwn i f) := ⟨pe, sim_setOwn he.sim⟩
theorem fs_share {i : Nat} {x : Str} {pos' pos e te f} (he : FN X G E e te f) (pe : PS X (.Assign [.Name x pos'] e pos) (tAsg te (gName i))) : FS X G E (.Assign [.Name x pos'] e pos) (tAsg te (gName i)) (mShare i f) := ⟨pe, sim_share he.sim⟩
theorem fs_asg {tg e pos te f g fg} (he : FE X G E e te f) (hg : FG X G E tg g fg) (pe : PS X (.Assign [tg] e pos) (tAsg te g)) : FS X G E (.Assign [tg] e pos) (tAsg te g) (mAsg f fg) := ⟨pe, sim_asg he.sim hg.sim⟩
theorem fs_expr {e pos te f} (he : FE X G E e te f) (hs : swapsWith e none pos.line X.env = pure false := by rfl) : FS X G E (.Expr e pos) (tDrop te) (mDrop f) := ⟨ps_expr he.pe hs, fun w ρ σ D I q => by
  refine he.sim w ρ σ _ I (Good.imp (Good.bind1 q) (fun x S1 h1 => ?_) fun _ _ _ h => h.step I.stp I.gok I.ok)
  intro w1 v e1 s1 k1 r1
  exact h1 w1 σ e1 (s1.v I.ok.sub) (I.step s1 k1)⟩
theorem fs_ret {e pos te f} (he : FE X G E e te f) : FS X G E (.Return (some e) pos) (tRet te) (mRet f) := ⟨ps_ret he.pe, fun w ρ σ D I q => by
  refine he.sim w ρ σ _ I (Good.imp (Good.bind1 q) (fun x S1 h1 => ?_) fun _ _ _ h => h.step I.stp I.gok I.ok)
  intro w1 v e1 s1 k1 r1
  have I1 := I.step s1 k1
  exact h1 w1 v e1 I1.stp k1 (cut_ret I1.stp k1 r1)⟩
theorem fs_retOwn {i : Nat} {x : Str} {pos pos'} (h : PE X (.Name x pos') (tVar i)) : FS X G E (.Return (some (.Name x pos')) pos) (tRet (tVar i)) (mRetOwn i) := ⟨ps_ret h, fun w ρ σ D I q => by
  unfold mRetOwn at q
  split at q
  · rename_i o hi
    obtain ⟨p, a, b, c, d, r⟩ := I.own i o hi
    refine ⟨.ref p, a, ?_⟩
    have k2 := freeze_ok (p := p) I.ok c
    have s2 := freeze_step (p := p) I.stp (I.gok.nin d)
    exact q (w.freeze p) (.ref p) rfl s2 k2 (cut_ret s2 k2 (freeze_rv r))
  · exact q.elim⟩
theorem fs_pass {pos} : FS X G E (.Pass pos) tNext mSkip := ⟨ps_pass, fun w ρ σ D I q => q w σ rfl (VStep.refl w) I⟩
theorem fs_doc {x j pos pos'} : FS X G E (.Expr (.Constant (.str x) j pos) pos') tNext mSkip := ⟨ps_doc, fun w ρ σ D I q => q w σ rfl (VStep.refl w) I⟩
theorem fs_break {pos} : FS X G E (.Break pos) tBreak mBrk := ⟨ps_break, fun w ρ σ D I q => q w σ rfl (VStep.refl w) I⟩
theorem fs_continue {pos} : FS X G E (.Continue pos) tCont mCnt := ⟨ps_continue, fun w ρ σ D I q => q w σ rfl (VStep.refl w) I⟩
theorem fss_nil : FSs X G E [] tNext mSkip := ⟨pss_nil, fun w ρ σ D I q => q w σ rfl (VStep.refl w) I⟩
theorem fss_one {st ts f} (h : FS X G E st ts f) : FSs X G E [st] ts f := ⟨pss_one h.pe, h.sim⟩
theorem sim_seq {t u f g} (h : SSim K mg G E t f) (h2 : SSim K mg G E u g) : SSim K mg G E (tSeq t u) (mSeq f g) := fun w ρ σ D I q => by
  refine h w ρ σ { D with nx := u D } I (Good.imp (Good.bind1 q) (fun o S1 h1 => ?_) fun _ _ _ h => h)
  cases o with
  | nx ρ' =>
    intro w1 σ1 e1 s1 I1
    subst e1
    exact h2 w1 ρ' σ1 D I1 (Good.imp h1 (fun _ _ h => h.step s1) fun _ _ _ h => h)
  | bk ρ' => exact h1
  | ct ρ' => exact h1
  | rt x => exact h1
theorem fss_cons {st rest t u f g} (h : FS X G E st t f) (h2 : FSs X G E rest u g) : FSs X G E (st :: rest) (tSeq t u) (mSeq f g) := ⟨pss_cons h.pe h2.pe, sim_seq h.sim h2.sim⟩
theorem fss_frz {sts t f} (i : Nat) (h : FSs X G E sts t f) : FSs X G E sts t (mFrzS i f) := ⟨h.pe, fun w ρ σ D I q => by
  unfold mFrzS frzAt at q
  split at q
  · rename_i o hi
    obtain ⟨p, a, b, c, d, r⟩ := I.own i o hi
    exact h.sim (w.freeze p) _ σ D (I.frzOwn hi a b c d r) (Good.imp q (fun _ _ h => h.step freeze_v) fun _ _ _ h => h)
  · exact h.sim w ρ σ D I q⟩
theorem fs_if {c a b pos tc ta tb fc fa fb} (hc : FT X G E c tc fc) (ha : FSs X G E a ta fa) (hb : FSs X G E b tb fb) : FS X G E (.If c a b pos) (tIfS tc ta tb) (mIfS fc fa fb) := ⟨ps_if hc.pe ha.pe hb.pe, fun w ρ σ D I q => by
  refine hc.sim w ρ σ _ I (Good.imp (Good.bind1 q) (fun k S1 h1 => ?_) fun _ _ _ h => h.step I.stp I.gok I.ok)
  intro w1 e1 s1 k1
  subst e1
  have h1 : Good (if k then fa ρ w1.S else fb ρ w1.S) (PostS X.K G w D) (ExP X.K X.mg E G) := h1
  cases k with
  | true =>
    rw [if_pos rfl] at h1 ⊢
    exact ha.sim w1 ρ σ D (I.step s1 k1) (Good.imp h1 (fun _ _ h => h.step (s1.v I.ok.sub)) fun _ _ _ h => h)
  | false =>
    rw [if_neg Bool.false_ne_true] at h1 ⊢
    exact hb.sim w1 ρ σ D (I.step s1 k1) (Good.imp h1 (fun _ _ h => h.step (s1.v I.ok.sub)) fun _ _ _ h => h)⟩

/-! ### loops -/
def ItOk (K : PySem.W.Frag) (w1 : Wd) (J : It) (xs : List PV) : Prop := ∀ (i : Nat) w', VStep w1 w' → WOk K w' →
  (∀ x, xs[i]? = some x → J.go i w'.H ∧ ∀ v H', J.yld i w'.H v H' → ∃ w'', w''.H = H' ∧ w''.S = w'.S ∧ WStep w' w'' ∧ WOk K w'' ∧ RV K w''.L w''.hc x v) ∧ (xs.length ≤ i → J.stop i w'.H)
def ISim (K : PySem.W.Frag) (mg : Str → Option Value) (G : Wd) (E : XK) (wi : TI) (f : Rho → Store → Res (List PV)) : Prop := ∀ w ρ σ R, FI K G w ρ σ →
  Good (f ρ w.S) (fun xs S' => ∀ w1 J, w1.S = S' → WStep w w1 → WOk K w1 → ItOk K w1 J xs → R J w1.H) (ExP K mg E w) → wi σ w.H R
variable (X G E) in
structure FIt (tg iter : Expr) (wi : TI) (f : Rho → Store → Res (List PV)) : Prop where
  pe : PI X tg iter wi
  sim : ISim X.K X.mg G E wi f
theorem pi_or {tg iter : Expr} {wi wj : TI} (h : PI X tg iter wi) (h' : PI X tg iter wj) : PI X tg iter (fun σ H R => wi σ H R ∨ wj σ H R) := ⟨fun pins s σ H R I q => q.elim (h.run pins s σ H R I) (h'.run pins s σ H R I)⟩
theorem itok_list {w1 : Wd} {a : Addr} {xs : List PV} {vs : List V} (ha : SqL K w1.hc a vs) (r : RVs K w1.L w1.hc xs vs) : ItOk K w1 (Itl K a) xs := fun i w' s k => by
  have h1 : SqL K w'.H a vs := sqL_mono (fun a o h => (cut_some h).2) (sqL_mono s.ext ha)
  refine ⟨fun x e => ?_, fun e => ⟨vs, h1, by rw [r.len]; exact e⟩⟩
  obtain ⟨v, e1, e2⟩ := r.get e
  refine ⟨⟨vs, v, h1, e1⟩, fun v' H' h => ?_⟩
  obtain ⟨rfl, h⟩ := h
  refine ⟨w', rfl, rfl, WStep.refl k.sub, k, ?_⟩
  have := h vs h1
  rw [e1] at this
  cases this
  exact e2.mono s.pre s.ext
theorem itok_tup {w1 : Wd} {a : Addr} {xs : List PV} {vs : List V} (ha : SqT K w1.hc a vs) (r : RVs K w1.L w1.hc xs vs) : ItOk K w1 (Itt K a) xs := fun i w' s k => by
  have h1 : SqT K w'.H a vs := sqT_mono (fun a o h => (cut_some h).2) (sqT_mono s.ext ha)
  refine ⟨fun x e => ?_, fun e => ⟨vs, h1, by rw [r.len]; exact e⟩⟩
  obtain ⟨v, e1, e2⟩ := r.get e
  refine ⟨⟨vs, v, h1, e1⟩, fun v' H' h => ?_⟩
  obtain ⟨rfl, h⟩ := h
  refine ⟨w', rfl, rfl, WStep.refl k.sub, k, ?_⟩
  have := h vs h1
  rw [e1] at this
  cases this
  exact e2.mono s.pre s.ext
theorem hc_sqT {w : Wd} {a : Addr} {vs : List V} (h : SqT K w.hc a vs) : SqT K w.H a vs := sqT_mono (fun a o h => (cut_some h).2) h
theorem hc_sqL {w : Wd} {a : Addr} {vs : List V} (h : SqL K w.hc a vs) : SqL K w.H a vs := sqL_mono (fun a o h => (cut_some h).2) h
theorem hc_lst {w : Wd} {a : Addr} {o : HO} (h : w.hc a = some o) : w.H a = some o := (cut_some h).2
/-- for x in e: e a list or a tuple -/
theorem sim_seqOf {te f} (h : ESim K mg G E te f) : ISim K mg G E (fun σ H R => iList K te σ H R ∨ iTup K te σ H R) (mSeqOf f) := fun w ρ σ R I q => by
  have q' := Good.bind1 q
  cases e1 : f ρ w.S with
  | bad => rw [e1] at q'; exact q'.elim
  | exc c fs S =>
    refine .inl (h w ρ σ _ I ?_)
    rw [e1] at q' ⊢
    exact q'
  | ok x S =>
    rw [e1] at q'
    cases x with
    | tup xs =>
      refine .inr (h w ρ σ _ I ?_)
      rw [e1]
      intro w1 v e2 s1 k1 r1
      obtain ⟨a, vs, rfl, r2, r3⟩ := r1
      exact ⟨a, rfl, ⟨vs, hc_sqT r2⟩, q' w1 _ e2 s1 k1 (itok_tup r2 r3)⟩
    | lst xs =>
      refine .inl (h w ρ σ _ I ?_)
      rw [e1]
      intro w1 v e2 s1 k1 r1
      obtain ⟨a, vs, rfl, r2, r3⟩ := r1
      have r2 : SqL K w1.hc a vs := .inl (.inl r2)
      exact ⟨a, rfl, ⟨vs, hc_sqL r2⟩, q' w1 _ e2 s1 k1 (itok_list r2 r3)⟩
    | cl xs =>
      refine .inl (h w ρ σ _ I ?_)
      rw [e1]
      intro w1 v e2 s1 k1 r1
      obtain ⟨a, vs, rfl, r2, r3⟩ := r1
      exact ⟨a, rfl, ⟨vs, hc_sqL r2⟩, q' w1 _ e2 s1 k1 (itok_list r2 r3)⟩
    | non => exact q'.elim
    | bl b => exact q'.elim
    | int i => exact q'.elim
    | str x => exact q'.elim
    | obj n => exact q'.elim
theorem fit_seq {tg e te f} (h : FE X G E e te f) : FIt X G E tg e (fun σ H R => iList X.K te σ H R ∨ iTup X.K te σ H R) (mSeqOf f) := ⟨pi_or (pi_list h.pe) (pi_tup h.pe), sim_seqOf h.sim⟩
theorem itok_range {w1 : Wd} {lo : Int} {n : Nat} : ItOk K w1 (Itr lo n) ((List.range n).map fun (k : Nat) => PV.int (lo + (k : Int))) := fun i w' s k => by
  refine ⟨fun x e => ?_, fun e => (show n ≤ i by simpa using e)⟩
  have hi : i < n := by have := get_lt e; simpa using this
  rw [List.getElem?_map, List.getElem?_range hi] at e
  cases e
  refine ⟨hi, fun v' H' h => ?_⟩
  obtain ⟨rfl, rfl⟩ := h
  exact ⟨w', rfl, rfl, WStep.refl k.sub, k, rfl⟩
theorem range62_of {i : Int} (h : range62 i = true) : -(2 ^ 62) ≤ i ∧ i < 2 ^ 62 := by
  unfold range62 at h
  simp only [Bool.and_eq_true, decide_eq_true_eq] at h
  omega
theorem fit_range1 {tg a p pos ta fa} (hm : X.mg "range" = none) (ha : FA X G E [a] ta fa) (hg : Gl X "range" := by rfl) (hs : starEach [a] X.env = [(false, eval a X.env)] := by rfl) : FIt X G E tg (.Call (.Name "range" p) [a] [] pos) (iRng1 ta) (mRange gRange1 fa) :=
  ⟨pi_range1 hg hm ha.pe hs, fun w ρ σ R I q => by
  refine ha.sim w ρ σ _ I (Good.imp (Good.bind1 q) (fun xs S1 h1 => ?_) fun _ _ _ h => h)
  intro w1 vs e1 s1 k1 r1
  match xs, h1, r1 with
  | [.int j], h1, r1 =>
    obtain ⟨v, r, rfl, e2, e3⟩ := r1
    have e2 : v = .int j := e2
    have e3 : r = [] := e3
    subst e2 e3
    obtain ⟨c, h2⟩ := good_if h1
    obtain ⟨c1, c2⟩ := range62_of c
    refine ⟨j, rfl, c1, c2, h2 w1 _ e1 s1 k1 ?_⟩
    have := itok_range (K := X.K) (w1 := w1) (lo := 0) (n := j.toNat)
    simpa using this⟩
theorem fit_range2 {tg a b p pos ta fa} (hm : X.mg "range" = none) (ha : FA X G E [a, b] ta fa) (hg : Gl X "range" := by rfl) (hs : starEach [a, b] X.env = [(false, eval a X.env), (false, eval b X.env)] := by rfl) (hs2 : starEach [b] X.env = [(false, eval b X.env)] := by rfl) : FIt X G E tg (.Call (.Name "range" p) [a, b] [] pos) (iRng2 ta) (mRange gRange2 fa) :=
  ⟨pi_range2 hg hm ha.pe hs hs2, fun w ρ σ R I q => by
  refine ha.sim w ρ σ _ I (Good.imp (Good.bind1 q) (fun xs S1 h1 => ?_) fun _ _ _ h => h)
  intro w1 vs e1 s1 k1 r1
  match xs, h1, r1 with
  | [.int i, .int j], h1, r1 =>
    obtain ⟨v, r, rfl, e2, v2, r2, rfl, e3, e4⟩ := r1
    have e2 : v = .int i := e2
    have e3 : v2 = .int j := e3
    have e4 : r2 = [] := e4
    subst e2 e3 e4
    obtain ⟨c, h2⟩ := good_if h1
    rw [Bool.and_eq_true] at c
    obtain ⟨c1, c2⟩ := range62_of c.1
    obtain ⟨c3, c4⟩ := range62_of c.2
    exact ⟨i, j, rfl, ⟨c1, c2, c3, c4⟩, h2 w1 _ e1 s1 k1 itok_range⟩⟩
theorem fs_for {tg iter body pos wi g tb fi fg fb} (hi : FIt X G E tg iter wi fi) (hg : FG X G E tg g fg) (hb : FSs X G E body tb fb) (pe : PS X (.For tg iter body [] pos) (tFor wi g tb)) : FS X G E (.For tg iter body [] pos) (tFor wi g tb) (mFor fi fg fb) := ⟨pe, fun w ρ σ D I q => by
  refine hi.sim w ρ σ _ I (Good.imp (Good.bind1 q) (fun xs S1 h1 => ?_) fun _ _ _ h => h.step I.stp I.gok I.ok)
  intro w1 J e1 s1 k1 it
  subst e1
  refine ⟨fun i m σ H => ∃ w2 ρ2, w2.H = H ∧ FI X.K G w2 ρ2 σ ∧ VStep w1 w2 ∧ m + i = xs.length ∧ Good (mForGo fg fb (xs.drop i) ρ2 w2.S) (PostS X.K G w2 D) (ExP X.K X.mg E G), ⟨xs.length, w1, ρ, rfl, I.step s1 k1, VStep.refl _, rfl, Good.imp h1 (fun _ _ h => h.step (s1.v I.ok.sub)) fun _ _ _ h => h⟩, ?_⟩
  rintro i m σ2 H2 ⟨w2, ρ2, rfl, I2, v2, em, h2⟩
  by_cases hx : i < xs.length
  · have ed : xs.drop i = xs[i] :: xs.drop (i + 1) := (List.getElem_cons_drop hx).symm
    rw [ed] at h2
    obtain ⟨go, yl⟩ := (it i w2 v2 I2.ok).1 xs[i] (List.getElem?_eq_getElem hx)
    refine .inr ⟨go, fun σ' H' => ∃ w3 ρ3, w3.H = H' ∧ FI X.K G w3 ρ3 σ' ∧ VStep w1 w3 ∧ Good (mForGo fg fb (xs.drop (i + 1)) ρ3 w3.S) (PostS X.K G w3 D) (ExP X.K X.mg E G), ?_, fun v H' hy => ?_⟩
    · rintro σ' H' ⟨w3, ρ3, a, b, c, d⟩
      exact ⟨m - 1, by omega, w3, ρ3, a, b, c, by omega, d⟩
    · obtain ⟨w3, rfl, es, s3, k3, r3⟩ := yl v H' hy
      rw [← es] at h2
      have v3 := v2.trans (s3.v I2.ok.sub)
      refine hg.sim w3 ρ2 σ2 xs[i] v _ (I2.step s3 k3) r3 (Good.imp (Good.bind1 h2) (fun ρ4 S4 h4 => ?_) fun _ _ _ h => h)
      intro w4 σ4 e4 s4 I4
      subst e4
      refine hb.sim w4 ρ4 σ4 _ I4 (Good.imp (Good.bind1 h4) (fun o S5 h5 => ?_) fun _ _ _ h => h)
      have v24 : VStep w2 w4 := (s3.v I2.ok.sub).trans s4
      cases o with
      | nx ρ5 =>
        intro w5 σ5 e5 s5 I5
        subst e5
        exact ⟨w5, ρ5, rfl, I5, (v3.trans s4).trans s5, Good.imp h5 (fun _ _ h => h.step (v24.trans s5)) fun _ _ _ h => h⟩
      | ct ρ5 =>
        intro w5 σ5 e5 s5 I5
        subst e5
        exact ⟨w5, ρ5, rfl, I5, (v3.trans s4).trans s5, Good.imp h5 (fun _ _ h => h.step (v24.trans s5)) fun _ _ _ h => h⟩
      | bk ρ5 =>
        intro w5 σ5 e5 s5 I5
        exact h5 w5 σ5 e5 (v24.trans s5) I5
      | rt x => exact h5
  · refine .inl ⟨(it i w2 v2 I2.ok).2 (by omega), ?_⟩
    rw [List.drop_eq_nil_of_le (by omega)] at h2
    exact h2 w2 σ2 rfl (VStep.refl _) I2⟩
theorem fs_while {c body pos tc tb fc fb} (n : Nat) (hc : FT X G E c tc fc) (hb : FSs X G E body tb fb) (hp : PassesOwn (model X.prog X.w) X.A X.env X.xe) : FS X G E (.While c body [] pos) (tWhile tc tb) (mWhile n fc fb) := ⟨ps_while hp hc.pe hb.pe, fun w ρ σ D I q => by
  refine ⟨fun m σ H => ∃ w2 ρ2, w2.H = H ∧ FI X.K G w2 ρ2 σ ∧ Good (mWhileGo fc fb m ρ2 w2.S) (PostS X.K G w2 D) (ExP X.K X.mg E G), ⟨n, w, ρ, rfl, I, q⟩, ?_⟩
  rintro m σ2 H2 ⟨w2, ρ2, rfl, I2, h2⟩
  cases m with
  | zero => exact h2.elim
  | succ m =>
    refine hc.sim w2 ρ2 σ2 _ I2 (Good.imp (Good.bind1 h2) (fun k S3 h3 => ?_) fun _ _ _ h => h.step I2.stp I2.gok I2.ok)
    intro w3 e3 s3 k3
    subst e3
    have I3 := I2.step s3 k3
    have v3 := s3.v I2.ok.sub
    cases k with
    | false =>
      rw [if_neg Bool.false_ne_true] at h3 ⊢
      exact h3 w3 σ2 rfl v3 I3
    | true =>
      rw [if_pos rfl] at h3 ⊢
      refine ⟨fun σ' H' => ∃ w4 ρ4, w4.H = H' ∧ FI X.K G w4 ρ4 σ' ∧ Good (mWhileGo fc fb m ρ4 w4.S) (PostS X.K G w4 D) (ExP X.K X.mg E G), fun σ' H' h => ⟨m, Nat.lt_succ_self m, h⟩, ?_⟩
      refine hb.sim w3 ρ2 σ2 _ I3 (Good.imp (Good.bind1 h3) (fun o S5 h5 => ?_) fun _ _ _ h => h)
      cases o with
      | nx ρ5 =>
        intro w5 σ5 e5 s5 I5
        subst e5
        exact ⟨w5, ρ5, rfl, I5, Good.imp h5 (fun _ _ h => h.step (v3.trans s5)) fun _ _ _ h => h⟩
      | ct ρ5 =>
        intro w5 σ5 e5 s5 I5
        subst e5
        exact ⟨w5, ρ5, rfl, I5, Good.imp h5 (fun _ _ h => h.step (v3.trans s5)) fun _ _ _ h => h⟩
      | bk ρ5 =>
        intro w5 σ5 e5 s5 I5
        exact h5 w5 σ5 e5 (v3.trans s5) I5
      | rt x => exact h5⟩
end
end Mir
set_option maxHeartbeats 4000000
/-! Mir4: comprehensions, stores, defs and calls. -/
namespace Mir
open PySem PySem.Spec PyProof.Rows L2

theorem wipe_at : ∀ {vs : List Nat} {σ : L2.St} {i : Nat}, i ∈ vs → i < σ.length → (wipe σ vs)[i]? = some none
  | v :: vs, σ, i, h, hl => by
    unfold wipe
    by_cases e : v = i
    · subst e
      rw [List.getElem?_set_self (by rw [wipe_length]; exact hl)]
    · rw [List.getElem?_set_ne e]
      exact wipe_at ((List.mem_cons.mp h).resolve_left (Ne.symm e)) hl
/-- what is stored at the block's own names goes away -/
theorem wipe_wipe (σ σ2 : L2.St) (vs : List Nat) (hl : σ2.length = σ.length) (h : ∀ i, i ∉ vs → σ2[i]? = (wipe σ vs)[i]?) : wipe σ2 vs = wipe (wipe σ vs) vs ∧ wipe (wipe σ vs) vs = wipe σ vs := by
  have key : ∀ a b : L2.St, a.length = b.length → (∀ i, i ∉ vs → a[i]? = b[i]?) → wipe a vs = wipe b vs := fun a b e q => by
    apply List.ext_getElem?
    intro i
    by_cases m : i ∈ vs
    · by_cases li : i < a.length
      · rw [wipe_at m li, wipe_at m (e ▸ li)]
      · rw [List.getElem?_eq_none (by rw [wipe_length]; omega), List.getElem?_eq_none (by rw [wipe_length]; omega)]
    · rw [wipe_out m, wipe_out m]
      exact q i m
  exact ⟨key _ _ (by rw [wipe_length]; exact hl) h, key _ _ (wipe_length _ _) fun i m => wipe_out m⟩
theorem FI.wipe {K G w ρ σ} (I : FI K G w ρ σ) : ∀ vs, FI K G w (mWipe ρ vs) (L2.wipe σ vs)
  | [] => I
  | _ :: vs => (I.wipe vs).wipe1
/-- a target's sim: besides, which slots it stores -/
def GtSim (K : PySem.W.Frag) (mg : Str → Option Value) (G : Wd) (g : TG) (f : PV → Rho → Store → Res Rho) (vs : List Nat) : Prop := ∀ w ρ σ x v Q, FI K G w ρ σ → RV K w.L w.hc x v → Good (f x ρ w.S) (fun ρ' S' => ∀ σ', S' = w.S → σ'.length = σ.length → (∀ i, i ∉ vs → σ'[i]? = σ[i]?) → FI K G w ρ' σ' → Q σ' w.H) (fun _ _ _ => False) → g v σ w.H Q
variable (X : Cx) (G : Wd) in
structure FGt (e : Expr) (g : TG) (f : PV → Rho → Store → Res Rho) (vs : List Nat) : Prop where
  pe : PG X e g
  sim : GtSim X.K X.mg G g f vs
def GtsSim (K : PySem.W.Frag) (mg : Str → Option Value) (G : Wd) (g : TGs) (f : List PV → Rho → Store → Res Rho) (vs : List Nat) : Prop := ∀ w ρ σ xs us Q, FI K G w ρ σ → RVs K w.L w.hc xs us → Good (f xs ρ w.S) (fun ρ' S' => ∀ σ', S' = w.S → σ'.length = σ.length → (∀ i, i ∉ vs → σ'[i]? = σ[i]?) → FI K G w ρ' σ' → Q σ' w.H) (fun _ _ _ => False) → g us σ w.H Q
variable (X : Cx) (G : Wd) in
structure FGts (e : List Expr) (g : TGs) (f : List PV → Rho → Store → Res Rho) (vs : List Nat) : Prop where
  pe : PGs X e g
  sim : GtsSim X.K X.mg G g f vs
theorem gt_name {X : Cx} {G : Wd} {i : Nat} {x : Str} {pos : Pos} {vs : List Nat} (h : PG X (.Name x pos) (gName i)) (hv : i ∈ vs := by decide) : FGt X G (.Name x pos) (gName i) (gNm i) vs := ⟨h, fun w ρ σ x v Q I r g =>
  g (σ.set i (some v)) rfl (List.length_set ..) (fun j hj => by rw [List.getElem?_set_ne fun e => hj (by rw [← e]; exact hv)]) (I.set r)⟩
theorem gts_nil {X : Cx} {G : Wd} {vs : List Nat} : FGts X G [] gNil gsNil vs := ⟨pgs_nil, fun w ρ σ xs us Q I r g => by
  cases xs with
  | nil => exact ⟨r, g σ rfl rfl (fun _ _ => rfl) I⟩
  | cons x xs => exact g.elim⟩
theorem gts_cons {X : Cx} {G : Wd} {vs : List Nat} {e es t u f g} (h1 : FGt X G e t f vs) (h2 : FGts X G es u g vs) (pe : PGs X (e :: es) (gCons t u)) : FGts X G (e :: es) (gCons t u) (gsCons f g) vs := ⟨pe, fun w ρ σ xs us Q I r q => by
  cases xs with
  | nil => exact q.elim
  | cons x xs =>
    obtain ⟨v, rs, rfl, r1, r2⟩ := r
    refine ⟨v, rs, rfl, h1.sim w ρ σ x v _ I r1 (Good.imp (Good.bind1 q) (fun ρ1 S1 q1 => ?_) fun _ _ _ h => h)⟩
    intro σ1 e1 l1 f1 I1
    subst e1
    exact h2.sim w ρ1 σ1 xs rs Q I1 r2 (Good.imp q1 (fun ρ2 S2 q2 σ2 e2 l2 f2 I2 => q2 σ2 e2 (l2.trans l1) (fun i hi => (f2 i hi).trans (f1 i hi)) I2) fun _ _ _ h => h)⟩
theorem gt_tup {X : Cx} {G : Wd} {vs : List Nat} {es k t pos f} {n : Nat} (h : FGts X G es t f vs) (pe : PG X (.Tuple es k pos) (L2.gTup X.K n t)) : FGt X G (.Tuple es k pos) (L2.gTup X.K n t) (gTupM n f) vs := ⟨pe, fun w ρ σ x v Q I r q => by
  cases x <;> first | exact q.elim | skip
  rename_i xs
  obtain ⟨a, us, rfl, r1, r2⟩ := r
  obtain ⟨hn, q⟩ := good_if q
  exact ⟨a, us, rfl, hc_sqT r1, r2.len.trans hn, h.sim w ρ σ xs us Q I r2 q⟩⟩
variable (X : Cx) (G : Wd) (E : XK) in
structure FTs (es : List Expr) (te : TT) (f : Rho → Store → Res Bool) : Prop where
  pe : PTs X es te
  sim : TSim X.K X.mg G E te f
theorem fts_nil {X : Cx} {G : Wd} {E : XK} : FTs X G E [] tYes mTrue := ⟨pts_nil, fun w ρ σ Q I h => h w rfl (WStep.refl I.ok.sub) I.ok⟩
theorem fts_one {X : Cx} {G : Wd} {E : XK} {c t f} (h : FT X G E c t f) : FTs X G E [c] t f := ⟨pts_one h.pe, h.sim⟩

theorem sim_lc {K : PySem.W.Frag} {mg : Str → Option Value} {G : Wd} {E : XK} {wi g tt te vs fi fg ft fe} (hi : ISim K mg G E wi fi) (hg : GtSim K mg G g fg vs) (ht : TSim K mg G E0 tt ft) (he : ESim K mg G E0 te fe) :
    NSim K mg G E (tLc wi g tt te vs) (mLc fi fg ft fe vs) := fun w ρ σ Q I q => by
  refine hi w ρ σ _ I (Good.imp (Good.bind1 q) (fun xs S1 h1 => ?_) fun _ _ _ h => h)
  intro w1 J e1 s1 k1 it D hD
  subst e1
  obtain ⟨hsz, h1⟩ := good_if h1
  have k2 := laid_ok (o := .lst []) k1 hD
  have s2 := laid_step (o := .lst []) k1 hD
  have hDL : D ∉ w1.L := k1.ninL hD
  have hDw : w.H D = none := by
    cases e : w.H D with
    | none => rfl
    | some o =>
      by_cases z : D ∈ w.L
      · exact absurd (s1.pre.subset z) hDL
      · rw [s1.keep D o e z] at hD; cases hD
  have I1 := I.step s1 k1
  refine ⟨fun i m H => ∃ w2 pacc acc, w2.H = H ∧ WStep w w2 ∧ WOk K w2 ∧ VStep w1 w2 ∧ D ∈ w2.O ∧ D ∉ w2.L ∧ w2.H D = some (.lst acc) ∧ RVs K w2.L w2.hc pacc acc ∧ acc.length ≤ i ∧ m + i = xs.length ∧ FI K G w2 (mWipe ρ vs) (wipe σ vs) ∧
    Good (mLcGo fg ft fe (mWipe ρ vs) (xs.drop i) w2.S) (fun ys S' => PostN K w Q (.lst (pacc ++ ys)) S') (ExP K mg E w),
    ⟨xs.length, w1.laid D (.lst []), [], [], rfl, s1.tr s2 I.ok k1, k2, s2.v k1.sub, List.mem_cons_self, hDL, by show upd w1.H D _ D = _; rw [upd_same], rfl, Nat.le_refl _, rfl, (I1.step s2 k2).wipe vs, Good.bind1 h1⟩, ?_⟩
  rintro i m H2 ⟨w2, pacc, acc, rfl, s2', k2', v2, hO, hL, hD2, racc, hlen, em, I2, h2⟩
  by_cases hx : i < xs.length
  · have ed : xs.drop i = xs[i] :: xs.drop (i + 1) := (List.getElem_cons_drop hx).symm
    rw [ed] at h2
    obtain ⟨go, yl⟩ := (it i w2 v2 k2').1 xs[i] (List.getElem?_eq_getElem hx)
    refine .inr ⟨go, fun H' => ∃ w3 pacc acc, w3.H = H' ∧ WStep w w3 ∧ WOk K w3 ∧ VStep w1 w3 ∧ D ∈ w3.O ∧ D ∉ w3.L ∧ w3.H D = some (.lst acc) ∧ RVs K w3.L w3.hc pacc acc ∧ acc.length ≤ i + 1 ∧ FI K G w3 (mWipe ρ vs) (wipe σ vs) ∧
      Good (mLcGo fg ft fe (mWipe ρ vs) (xs.drop (i + 1)) w3.S) (fun ys S' => PostN K w Q (.lst (pacc ++ ys)) S') (ExP K mg E w), ?_, fun v H' hy => ?_⟩
    · rintro H' ⟨w3, p3, a3, c1, c2, c3, c4, c5, c6, c7, c8, c9, c10, c11⟩
      exact ⟨m - 1, by omega, w3, p3, a3, c1, c2, c3, c4, c5, c6, c7, c8, c9, by omega, c10, c11⟩
    · obtain ⟨w3, rfl, es, s3, k3, r3⟩ := yl v H' hy
      rw [← es] at h2
      have I3 := I2.step s3 k3
      have h3 := Good.nox (ex' := fun _ _ _ => False) (Good.bind1 h2)
      refine hg w3 _ _ xs[i] v _ I3 r3 (Good.imp h3 (fun ρ4 S4 h4 => ?_) fun _ _ _ h => h)
      intro σ4 e4 l4 f4 I4
      subst e4
      have wp := wipe_wipe σ σ4 vs (by rw [l4, wipe_length]) f4
      refine ⟨wp.1.trans wp.2, ?_⟩
      have h4' := Good.nox (ex' := ExP K mg E0 w3) (Good.bind1 h4)
      refine ht w3 ρ4 σ4 _ I4 (Good.imp h4' (fun b S5 h5 => ?_) fun _ _ _ h => h)
      intro w5 e5 s5 k5
      subst e5
      have s25 := s3.tr s5 k2' k3
      cases b with
      | false =>
        rw [if_neg Bool.false_ne_true] at h5 ⊢
        have hD5 : w5.H D = some (.lst acc) := s25.keep D _ hD2 hL
        refine ⟨w5, pacc, acc, rfl, s2'.tr s25 I.ok k2', k5, v2.trans (s25.v k2'.sub), s25.omono D hO, fun z => ?_, hD5, racc.mono s25.pre (s25.ext k2'.sub), by omega, I2.step s25 k5, h5⟩
        rcases s25.lset D z with y | y
        · exact hL y
        · rw [hD2] at y; cases y
      | true =>
        rw [if_pos rfl] at h5 ⊢
        have h5' := Good.nox (ex' := ExP K mg E0 w5) (Good.bind1 h5)
        refine he w5 ρ4 σ4 _ (I4.step s5 k5) (Good.imp h5' (fun y S6 h6 => ?_) fun _ _ _ h => h)
        intro w6 u e6 s6 k6 r6
        subst e6
        have s26 := s25.tr s6 k2' k5
        have hD6 : w6.H D = some (.lst acc) := s26.keep D _ hD2 hL
        have hL6 : D ∉ w6.L := fun z => by
          rcases s26.lset D z with y | y
          · exact hL y
          · rw [hD2] at y; cases y
        have hO6 := s26.omono D hO
        have v7 : VStep w6 (w6.wr D (.lst (acc ++ [u]))) := wr_v hO6
        have k7 := wr_ok (ho := .lst (acc ++ [u])) k6 hO6 hL6
        have I6 := I2.step s26 k6
        have hGD : G.H D = none := by
          cases e : G.H D with
          | none => rfl
          | some o =>
            by_cases z : D ∈ G.L
            · exact absurd ((I.stp.pre.trans s1.pre).subset z) hDL
            · rw [I.stp.keep D o e z] at hDw; cases hDw
        refine ⟨acc, hD6, Nat.lt_of_le_of_lt hlen (Nat.lt_of_lt_of_le hx (sizeM_le hsz)), w6.wr D (.lst (acc ++ [u])), pacc ++ [y], acc ++ [u], rfl, wr_step (s2'.tr s26 I.ok k2') hDw, k7, (v2.trans (s26.v k2'.sub)).trans v7, hO6, hL6, by show upd w6.H D _ D = _; rw [upd_same], ?_, by simp; omega, ?_, ?_⟩
        · rw [wr_hc hO6]
          exact RVs.append (racc.mono s26.pre (s26.ext k2'.sub)) (RVs.one r6)
        · refine ⟨I6.gok, k7, wr_step I6.stp hGD, I6.len, fun j x e => ?_, fun j o e => ?_, I6.dis, fun j c fs e => ?_⟩
          · rw [wr_hc hO6]; exact I6.val j x e
          · rw [wr_hc hO6]
            obtain ⟨p, a, b, c, d, r⟩ := I6.own j o e
            have np : p ≠ D := fun z => by
              obtain ⟨p', a', b', _⟩ := (I1.wipe vs).own j o e
              rw [a'] at a
              cases a
              rw [z] at b'
              exact k1.nin hD b'
            exact ⟨p, a, b, c, d, by show SOk K w6.L w6.hc (upd w6.H D _ p) o; rw [upd_ne np]; exact r⟩
          · rw [wr_hc hO6]; exact I6.pin j c fs e
        · refine Good.imp (Good.bind1 h6) (fun ys S7 h7 => ?_) fun _ _ _ h => h
          rw [List.append_assoc]
          exact h7
  · refine .inl ⟨(it i w2 v2 k2').2 (by omega), ?_⟩
    rw [List.drop_eq_nil_of_le (by omega)] at h2
    have h2 : PostN K w Q (.lst (pacc ++ [])) w2.S := h2
    rw [List.append_nil] at h2
    exact h2 w2 D rfl s2' k2' hDw hO hL ⟨acc, hD2, racc⟩
theorem fn_lc {X : Cx} {G : Wd} {E : XK} {elt tg iter : Expr} {ifs : List Expr} {scope : Scope} {pos : Pos} {wi g tt te fi fg ft fe} (own : List (Str × Nat)) (hc : X.calm = true) (hN : X.N.Nodup) (ok : BlkOk X.N X.env.scope scope own) (hi : FIt X G E tg iter wi fi)
    (hg : ∀ (s : Shared) (H : Hp) (C : Addr) (cl : List (Str × Addr)) (fp : List Addr), FGt (X.blk s H scope (compEnvC scope cl C X.env) fp) G tg g fg (own.map (·.2)))
    (ht : ∀ (s : Shared) (H : Hp) (C : Addr) (cl : List (Str × Addr)) (fp : List Addr), FTs (X.blk s H scope (compEnvC scope cl C X.env) fp) G E0 ifs tt ft)
    (he : ∀ (s : Shared) (H : Hp) (C : Addr) (cl : List (Str × Addr)) (fp : List Addr), FE (X.blk s H scope (compEnvC scope cl C X.env) fp) G E0 elt te fe) (hs : ∀ x, foldedSetIterable iter X.env x = pure x := by intro _; rfl) :
    FN X G E (.ListComp elt [⟨tg, iter, ifs, 0⟩] scope pos) (tLc wi g tt te (own.map (·.2))) (mLc fi fg ft fe (own.map (·.2))) :=
  ⟨pe_lc hc hN hi.pe ok (fun s H C cl fp => (hg s H C cl fp).pe) (fun s H C cl fp => (ht s H C cl fp).pe) (fun s H C cl fp => (he s H C cl fp).pe) hs,
   sim_lc hi.sim (hg X.s_0 X.H_0 0 [] []).sim (ht X.s_0 X.H_0 0 [] []).sim (he X.s_0 X.H_0 0 [] []).sim⟩
/-- y = [..] : the statement's own derivation, with what the list is worth -/
structure FLcS (X : Cx) (G : Wd) (E : XK) (st : Stmt) (i : Nat) (te : TE) (f : Rho → Store → Res SO) : Prop where
  pe : PS X st (tAsg te (gName i))
  sim : NSim X.K X.mg G E te f
theorem fs_lc {X : Cx} {G : Wd} {E : XK} {elt tg iter : Expr} {ifs : List Expr} {scope : Scope} {pos spos py : Pos} {y : Str} {wi g tt te fi fg ft fe} (i : Nat) (own : List (Str × Nat)) (hc : X.calm = true) (hN : X.N.Nodup) (hy : X.N[i]? = some y) (hyl : X.env.scope.names.lookup y = some .local)
    (hsw : swapsWith (.ListComp elt [⟨tg, iter, ifs, 0⟩] scope pos) (some (.Name y py)) spos.line X.env = pure true) (ok : BlkOk X.N X.env.scope scope own) (hi : FIt X G E tg iter wi fi)
    (hg : ∀ (s : Shared) (H : Hp) (C : Addr) (cl : List (Str × Addr)) (fp : List Addr), FGt (X.blk s H scope (compEnvC scope cl C X.env) fp) G tg g fg (own.map (·.2)))
    (ht : ∀ (s : Shared) (H : Hp) (C : Addr) (cl : List (Str × Addr)) (fp : List Addr), FTs (X.blk s H scope (compEnvC scope cl C X.env) fp) G E0 ifs tt ft)
    (he : ∀ (s : Shared) (H : Hp) (C : Addr) (cl : List (Str × Addr)) (fp : List Addr), FE (X.blk s H scope (compEnvC scope cl C X.env) fp) G E0 elt te fe) (hs : ∀ x, foldedSetIterable iter X.env x = pure x := by intro _; rfl) :
    FLcS X G E (.Assign [.Name y py] (.ListComp elt [⟨tg, iter, ifs, 0⟩] scope pos) spos) i (tLc wi g tt te (own.map (·.2))) (mLc fi fg ft fe (own.map (·.2))) :=
  ⟨ps_setLc hc hN hy hyl hsw hi.pe ok (fun s H C cl fp => (hg s H C cl fp).pe) (fun s H C cl fp => (ht s H C cl fp).pe) (fun s H C cl fp => (he s H C cl fp).pe) hs,
   sim_lc hi.sim (hg X.s_0 X.H_0 0 [] []).sim (ht X.s_0 X.H_0 0 [] []).sim (he X.s_0 X.H_0 0 [] []).sim⟩
theorem FLcS.own {X G E st i te f} (h : FLcS X G E st i te f) : FS X G E st (tAsg te (gName i)) (mSetOwn i f) := ⟨h.pe, sim_setOwn h.sim⟩
theorem FLcS.val {X G E st i te f} (h : FLcS X G E st i te f) : FS X G E st (tAsg te (gName i)) (mSet i (mFrz f)) := ⟨h.pe, sim_set (sim_frz h.sim)⟩

end Mir
set_option maxHeartbeats 4000000
/-! Mir5: operators, built-ins, defs and calls. -/
namespace Mir
open PySem PySem.Spec PyProof.Rows L2

/-! ### what operators make of pure values -/
def pow64 : Int := 18446744073709551616
def small64 (i : Int) : Bool := decide (-pow64 < i) && decide (i < pow64)
theorem small64_of {i : Int} (h : small64 i = true) : -(2 ^ 64) < i ∧ i < 2 ^ 64 := by
  unfold small64 pow64 at h
  simp only [Bool.and_eq_true, decide_eq_true_eq] at h
  omega
def gAdd : PV → PV → Store → Res PV
  | .int i, .int j, S => .ok (.int (i + j)) S
  | .str a, .str b, S => if a.length + b.length ≤ sizeM then .ok (.str (a ++ b)) S else .bad
  | .tup xs, .tup ys, S => if xs.length + ys.length ≤ sizeM then .ok (.tup (xs ++ ys)) S else .bad
  | _, _, _ => .bad
def gCat : PV → PV → Store → Res SO
  | .lst xs, .lst ys, S => if xs.length + ys.length ≤ sizeM then .ok (.lst (xs ++ ys)) S else .bad
  | _, _, _ => .bad
def gRep : PV → PV → Store → Res SO
  | .lst xs, .int k, S => if (decide (xs.length * k.toNat ≤ sizeM) && decide (-1000000 ≤ k) && decide (k ≤ 1000000)) = true then .ok (.lst (List.replicate k.toNat xs).flatten) S else .bad
  | _, _, _ => .bad
def gSub : PV → PV → Store → Res PV
  | .int i, .int j, S => .ok (.int (i - j)) S
  | _, _, _ => .bad
def gMul : PV → PV → Store → Res PV
  | .int i, .int j, S => if (small64 i || small64 j) = true then .ok (.int (i * j)) S else .bad
  | _, _, _ => .bad
def gFdiv : PV → PV → Store → Res PV
  | .int i, .int j, S => if (decide (0 < j) && decide (j < 1073741824)) = true then .ok (.int (i / j)) S else .bad
  | _, _, _ => .bad
def gMod : PV → PV → Store → Res PV
  | .int i, .int j, S => if 0 < j then .ok (.int (i % j)) S else .bad
  | _, _, _ => .bad
def cpow (i j : Int) : Bool := decide (0 ≤ j) && decide (j ≤ 1000) && small64 i
def gPow : PV → PV → Store → Res PV
  | .int i, .int j, S => if cpow i j = true then .ok (.int (i ^ j.toNat)) S else .bad
  | _, _, _ => .bad
def gShl : PV → PV → Store → Res PV
  | .int i, .int j, S => if cpow i j = true then .ok (.int (i * 2 ^ j.toNat)) S else .bad
  | _, _, _ => .bad
def gLt : PV → PV → Store → Res PV
  | .int i, .int j, S => .ok (.bl (decide (i < j))) S
  | _, _, _ => .bad
def gLe : PV → PV → Store → Res PV
  | .int i, .int j, S => .ok (.bl (decide (i ≤ j))) S
  | _, _, _ => .bad
def gGt : PV → PV → Store → Res PV
  | .int i, .int j, S => .ok (.bl (decide (j < i))) S
  | _, _, _ => .bad
def gGe : PV → PV → Store → Res PV
  | .int i, .int j, S => .ok (.bl (decide (j ≤ i))) S
  | _, _, _ => .bad
def toV : PV → Option V
  | .non => some .non
  | .bl b => some (.bl b)
  | .int i => some (.int i)
  | .str x => some (.str x)
  | _ => none
/-- == of scalars -/
def gEq (neg : Bool) (x y : PV) (S : Store) : Res PV := match toV x, toV y with
  | some v, some u => if scal v u = true then .ok (.bl (if neg then !decide (v = u) else decide (v = u))) S else .bad
  | _, _ => .bad
def gIs (neg : Bool) : PV → PV → Store → Res PV
  | .non, .non, S => .ok (.bl (!neg)) S
  | _, .non, S => .ok (.bl neg) S
  | _, _, _ => .bad
def items : PV → Option (List PV)
  | .tup xs => some xs
  | .lst xs => some xs
  | .cl xs => some xs
  | _ => none
/-- in, not in: flat items -/
def gIn (neg : Bool) (x y : PV) (S : Store) : Res PV := match toV x, items y with
  | some v, some ys => match ys.mapM toV with
    | some us => .ok (.bl (if neg then !inV v us else inV v us)) S
    | none => .bad
  | _, _ => .bad
def gNeg : PV → Store → Res PV
  | .int i, S => .ok (.int (-i)) S
  | _, _ => .bad
/-- x[k] -/
def gIx : PV → PV → Store → Res PV
  | .tup xs, .int k, S => match atI xs k with | some y => .ok y S | none => .bad
  | .lst xs, .int k, S => match atI xs k with | some y => .ok y S | none => .bad
  | .cl xs, .int k, S => match atI xs k with | some y => .ok y S | none => .bad
  | .obj n, .int k, S => match S[n]? with
    | some (.lst xs) => match atI xs k with | some y => .ok y S | none => .bad
    | none => .bad
  | .str z, .int k, S => if z.length ≤ sizeM then (match atI z.cps.toList k with | some c => .ok (.str ⟨#[c]⟩) S | none => .bad) else .bad
  | _, _, _ => .bad
def cutP (xs : List PV) (lo hi : Option Int) : List PV := (xs.drop (HT.sIx xs.length 0 lo)).take (HT.sIx xs.length xs.length hi - HT.sIx xs.length 0 lo)
/-- t[i:j] -/
def gSl : PV → Option Int → Option Int → Store → Res PV
  | .tup xs, i, j, S => .ok (.tup (cutP xs i j)) S
  | .str z, i, j, S => if z.length ≤ sizeM then .ok (.str (cutS z i j)) S else .bad
  | .lst xs, i, j, S => .ok (.lst (cutP xs i j)) S
  | _, _, _, _ => .bad
def gLen : List PV → Store → Res PV
  | [.tup xs], S => .ok (.int xs.length) S
  | [.lst xs], S => .ok (.int xs.length) S
  | [.cl xs], S => .ok (.int xs.length) S
  | [.str z], S => if z.length ≤ sizeM then .ok (.int z.length) S else .bad
  | [.obj n], S => match S[n]? with
    | some (.lst xs) => .ok (.int xs.length) S
    | none => .bad
  | _, _ => .bad
def gInt : List PV → Store → Res PV
  | [.int i], S => .ok (.int i) S
  | [.bl b], S => .ok (.int (if b then 1 else 0)) S
  | _, _ => .bad
def gAbs : List PV → Store → Res PV
  | [.int i], S => .ok (.int (if i < 0 then -i else i)) S
  | _, _ => .bad
def gTuple : List PV → Store → Res PV
  | [.tup xs], S => .ok (.tup xs) S
  | [.lst xs], S => .ok (.tup xs) S
  | [.cl xs], S => .ok (.tup xs) S
  | _, _ => .bad
def gList : List PV → Store → Res SO
  | [.tup xs], S => .ok (.lst xs) S
  | [.lst xs], S => .ok (.lst xs) S
  | [.cl xs], S => .ok (.lst xs) S
  | _, _ => .bad
def toBl : PV → Option Bool
  | .bl b => some b
  | _ => none
def toI : PV → Option Int
  | .int b => some b
  | _ => none
def gAll : List PV → Store → Res PV
  | [.lst xs], S => match xs.mapM toBl with | some bs => .ok (.bl (bs.all id)) S | none => .bad
  | _, _ => .bad
def gAny : List PV → Store → Res PV
  | [.lst xs], S => match xs.mapM toBl with | some bs => .ok (.bl (bs.any id)) S | none => .bad
  | _, _ => .bad
def gSumL : List PV → Store → Res PV
  | [.lst xs], S => match xs.mapM toI with | some bs => .ok (.int bs.sum) S | none => .bad
  | _, _ => .bad
def tyP : PV → Option String
  | .non => some "NoneType"
  | .bl _ => some "bool"
  | .int _ => some "int"
  | .str _ => some "str"
  | .tup _ => some "tuple"
  | .lst _ => some "list"
  | .cl _ => some "list"
  | .obj _ => none
def gIsi (T : String) (x : PV) (S : Store) : Res PV := match tyP x with
  | some a => match kitB a T with
    | some b => .ok (.bl b) S
    | none => .bad
  | none => .bad

section
variable {K : PySem.W.Frag} {mg : Str → Option Value} {E : XK} {w : Wd} {Q : VK}
theorem post_self {x : PV} {v : V} {S : Store} (k : WOk K w) (h : PostV K w Q x S) (hS : w.S = S) (r : RV K w.L w.hc x v) : Q v w.H := h w v hS (WStep.refl k.sub) k r
/-- an own def of cases -/
theorem r2_add : R2Sim K mg E (fun x y H Q => rI0 (fun i j => .int (i + j)) x y H Q ∨ ((∃ i j, x = V.str i ∧ y = .str j ∧ i.length + j.length ≤ sizeLine ∧ Q (.str (i ++ j)) H) ∨ rCatA K x y H Q)) gAdd := fun w x y v u Q k rx ry g => by
  cases x <;> cases y <;> first | exact g.elim | skip
  · exact .inl ⟨_, _, rx, ry, post_self k g rfl rfl⟩
  · obtain ⟨c, g⟩ := good_if g
    exact .inr (.inl ⟨_, _, rx, ry, sizeM_le c, post_self k g rfl rfl⟩)
  · obtain ⟨c, g⟩ := good_if g
    obtain ⟨a, vs, rfl, r1, r2⟩ := rx
    obtain ⟨b, us, rfl, r3, r4⟩ := ry
    rename_i xs ys _
    have g : PostV K w Q (.tup (xs ++ ys)) w.S := g
    refine .inr (.inr ⟨a, b, vs, us, rfl, rfl, hc_sqT r1, hc_sqT r3, by rw [r2.len, r4.len]; exact sizeM_le c, fun e => ?_, fun _ e => ?_, fun _ _ => post_tup k rfl (r2.append r4) g⟩)
    · have : xs = [] := by
        have := r2.len
        rw [e] at this
        exact List.length_eq_zero_iff.mp this.symm
      subst this
      exact post_self k g rfl ⟨b, us, rfl, r3, r4⟩
    · have : ys = [] := by
        have := r4.len
        rw [e] at this
        exact List.length_eq_zero_iff.mp this.symm
      subst this
      rw [List.append_nil] at g
      exact post_self k g rfl ⟨a, vs, rfl, r1, r2⟩
theorem r2_cat : R2N K mg E rCat gCat := fun w x y v u Q k rx ry g => by
  cases x <;> cases y <;> first | exact g.elim | skip
  obtain ⟨c, g⟩ := good_if g
  obtain ⟨a, vs, rfl, r1, r2⟩ := rx
  obtain ⟨b, us, rfl, r3, r4⟩ := ry
  exact ⟨a, b, vs, us, rfl, rfl, hc_lst r1, hc_lst r3, by rw [r2.len, r4.len]; exact sizeM_le c, post_lst k rfl (r2.append r4) g⟩
theorem RVs.flat {L Hc} {xs : List PV} {vs : List V} (r : RVs K L Hc xs vs) : ∀ n : Nat, RVs K L Hc (List.replicate n xs).flatten (List.replicate n vs).flatten
  | 0 => rfl
  | n + 1 => by
    rw [List.replicate_succ, List.replicate_succ, List.flatten_cons, List.flatten_cons]
    exact r.append (RVs.flat r n)
theorem r2_rep : R2N K mg E rRep gRep := fun w x y v u Q k rx ry g => by
  cases x <;> cases y <;> first | exact g.elim | skip
  obtain ⟨c, g⟩ := good_if g
  simp only [Bool.and_eq_true, decide_eq_true_eq] at c
  obtain ⟨a, vs, rfl, r1, r2⟩ := rx
  exact ⟨a, _, vs, rfl, ry, hc_lst r1, by omega, by omega, by rw [r2.len]; exact sizeM_le c.1.1, post_lst k rfl (r2.flat _) g⟩
theorem r2_sub : R2Sim K mg E (rI0 fun i j => .int (i - j)) gSub := fun w x y v u Q k rx ry g => by
  cases x <;> cases y <;> first | exact g.elim | exact ⟨_, _, rx, ry, post_self k g rfl rfl⟩
theorem r2_mul : R2Sim K mg E (rI CMul fun i j => .int (i * j)) gMul := fun w x y v u Q k rx ry g => by
  cases x <;> cases y <;> first | exact g.elim | skip
  obtain ⟨c, g⟩ := good_if g
  refine ⟨_, _, rx, ry, ?_, post_self k g rfl rfl⟩
  rcases Bool.or_eq_true_iff.mp c with c | c
  · exact .inl (small64_of c)
  · exact .inr (small64_of c)
theorem r2_fdiv : R2Sim K mg E (rI CDiv fun i j => .int (i / j)) gFdiv := fun w x y v u Q k rx ry g => by
  cases x <;> cases y <;> first | exact g.elim | skip
  obtain ⟨c, g⟩ := good_if g
  simp only [Bool.and_eq_true, decide_eq_true_eq] at c
  exact ⟨_, _, rx, ry, c, post_self k g rfl rfl⟩
theorem r2_mod : R2Sim K mg E (rI (fun _ j => 0 < j) fun i j => .int (i % j)) gMod := fun w x y v u Q k rx ry g => by
  cases x <;> cases y <;> first | exact g.elim | skip
  obtain ⟨c, g⟩ := good_if g
  exact ⟨_, _, rx, ry, c, post_self k g rfl rfl⟩
theorem cpow_of {i j : Int} (h : cpow i j = true) : CPow i j := by
  unfold cpow at h
  simp only [Bool.and_eq_true, decide_eq_true_eq] at h
  have := small64_of h.2
  exact ⟨h.1.1, by omega, by omega⟩
theorem r2_pow : R2Sim K mg E (rI CPow fun i j => .int (i ^ j.toNat)) gPow := fun w x y v u Q k rx ry g => by
  cases x <;> cases y <;> first | exact g.elim | skip
  obtain ⟨c, g⟩ := good_if g
  exact ⟨_, _, rx, ry, cpow_of c, post_self k g rfl rfl⟩
theorem r2_shl : R2Sim K mg E (rI CPow fun i j => .int (i * 2 ^ j.toNat)) gShl := fun w x y v u Q k rx ry g => by
  cases x <;> cases y <;> first | exact g.elim | skip
  obtain ⟨c, g⟩ := good_if g
  exact ⟨_, _, rx, ry, cpow_of c, post_self k g rfl rfl⟩
theorem r2_lt : R2Sim K mg E (rI0 fun i j => .bl (decide (i < j))) gLt := fun w x y v u Q k rx ry g => by
  cases x <;> cases y <;> first | exact g.elim | exact ⟨_, _, rx, ry, post_self k g rfl rfl⟩
theorem r2_le : R2Sim K mg E (rI0 fun i j => .bl (decide (i ≤ j))) gLe := fun w x y v u Q k rx ry g => by
  cases x <;> cases y <;> first | exact g.elim | exact ⟨_, _, rx, ry, post_self k g rfl rfl⟩
theorem r2_gt : R2Sim K mg E (rI0 fun i j => .bl (decide (j < i))) gGt := fun w x y v u Q k rx ry g => by
  cases x <;> cases y <;> first | exact g.elim | exact ⟨_, _, rx, ry, post_self k g rfl rfl⟩
theorem r2_ge : R2Sim K mg E (rI0 fun i j => .bl (decide (j ≤ i))) gGe := fun w x y v u Q k rx ry g => by
  cases x <;> cases y <;> first | exact g.elim | exact ⟨_, _, rx, ry, post_self k g rfl rfl⟩
theorem toV_rv {L Hc} {x : PV} {u v : V} (h : toV x = some u) (r : RV K L Hc x v) : v = u := by
  cases x <;> first | (cases h; exact r) | cases h
theorem toVs_rv {L Hc} : ∀ {xs : List PV} {us vs : List V}, xs.mapM toV = some us → RVs K L Hc xs vs → vs = us
  | [], us, vs, h, r => by
    simp at h
    subst h
    exact r
  | x :: xs, us, vs, h, r => by
    obtain ⟨v, r', rfl, r1, r2⟩ := r
    rw [List.mapM_cons] at h
    cases e : toV x with
    | none => rw [e] at h; cases h
    | some a =>
      rw [e] at h
      cases e2 : xs.mapM toV with
      | none => rw [e2] at h; cases h
      | some b =>
        rw [e2] at h
        cases h
        rw [toV_rv e r1, toVs_rv e2 r2]
theorem toV_flat {x : PV} {u : V} (h : toV x = some u) : flatV u = true := by
  cases x <;> cases h <;> rfl
theorem toVs_flat : ∀ {xs : List PV} {us : List V}, xs.mapM toV = some us → us.all flatV = true
  | [], us, h => by
    simp at h
    subst h
    rfl
  | x :: xs, us, h => by
    rw [List.mapM_cons] at h
    cases e : toV x with
    | none => rw [e] at h; cases h
    | some a =>
      rw [e] at h
      cases e2 : xs.mapM toV with
      | none => rw [e2] at h; cases h
      | some b =>
        rw [e2] at h
        cases h
        rw [List.all_cons, toV_flat e, toVs_flat e2]
        rfl
theorem r2_eq : R2Sim K mg E rEq (gEq false) := fun w x y v u Q k rx ry g => by
  unfold gEq at g
  split at g
  · rename_i a b ea eb
    obtain ⟨c, g⟩ := good_if g
    rw [toV_rv ea rx, toV_rv eb ry]
    exact ⟨c, post_self k g rfl rfl⟩
  · exact g.elim
theorem r2_ne : R2Sim K mg E rNe (gEq true) := fun w x y v u Q k rx ry g => by
  unfold gEq at g
  split at g
  · rename_i a b ea eb
    obtain ⟨c, g⟩ := good_if g
    rw [toV_rv ea rx, toV_rv eb ry]
    exact ⟨c, post_self k g rfl rfl⟩
  · exact g.elim
theorem items_rv {L Hc} {y : PV} {ys : List PV} {u : V} (h : items y = some ys) (r : RV K L Hc y u) : ∃ p us, u = .ref p ∧ (SqL K Hc p us ∨ SqT K Hc p us) ∧ RVs K L Hc ys us := by
  cases y <;> first | cases h | skip
  · obtain ⟨a, vs, rfl, r1, r2⟩ := r
    exact ⟨a, vs, rfl, .inr r1, r2⟩
  · obtain ⟨a, vs, rfl, r1, r2⟩ := r
    exact ⟨a, vs, rfl, .inl (.inl (.inl r1)), r2⟩
  · obtain ⟨a, vs, rfl, r1, r2⟩ := r
    exact ⟨a, vs, rfl, .inl r1, r2⟩
theorem r2_in (neg : Bool) : R2Sim K mg E (rIn K neg) (gIn neg) := fun w x y v u Q k rx ry g => by
  unfold gIn at g
  split at g
  · rename_i a ys ea ey
    split at g
    · rename_i us eu
      obtain ⟨p, us', rfl, h1, h2⟩ := items_rv ey ry
      have e1 := toV_rv ea rx
      have e2 := toVs_rv eu h2
      subst e1 e2
      exact ⟨p, us', rfl, h1.imp hc_sqL hc_sqT, toV_flat ea, toVs_flat eu, post_self k g rfl rfl⟩
    · exact g.elim
  · exact g.elim
theorem rv_non {L Hc} {x : PV} {v : V} (r : RV K L Hc x v) : decide (v = .non) = (match x with | .non => true | _ => false) := by
  cases x <;> first | (have r : v = _ := r; subst r; rfl) | skip
  all_goals
    obtain ⟨a, h⟩ := r
    first
      | (obtain ⟨vs, rfl, _⟩ := h; rfl)
      | (obtain ⟨rfl, _⟩ := h; rfl)
theorem r2_is : R2Sim K mg E (fun x y H Q => y = .non ∧ Q (.bl (decide (x = .non))) H) (gIs false) := fun w x y v u Q k rx ry g => by
  cases y <;> first | (cases x <;> exact g.elim) | skip
  refine ⟨ry, ?_⟩
  rw [rv_non rx]
  cases x <;> exact post_self k g rfl rfl
theorem r2_isnot : R2Sim K mg E (fun x y H Q => y = .non ∧ Q (.bl (!decide (x = .non))) H) (gIs true) := fun w x y v u Q k rx ry g => by
  cases y <;> first | (cases x <;> exact g.elim) | skip
  refine ⟨ry, ?_⟩
  rw [rv_non rx]
  cases x <;> exact post_self k g rfl rfl
theorem r1_neg : R1Sim K mg E (rU fun i => .int (-i)) gNeg := fun w x v Q k rx g => by
  cases x <;> first | exact g.elim | exact ⟨_, rx, post_self k g rfl rfl⟩
theorem at_rv {L Hc} {xs : List PV} {vs : List V} {i : Int} {y : PV} (r : RVs K L Hc xs vs) (h : atI xs i = some y) : ∃ v, atI vs i = some v ∧ RV K L Hc y v := by
  unfold atI at h ⊢
  rw [r.len]
  cases e : ixN xs.length i with
  | none => rw [e] at h; cases h
  | some j =>
    rw [e] at h
    exact r.get h
theorem st_at (k : WOk K w) {n : Nat} {v : V} {xs : List PV} (r : RV K w.L w.hc (.obj n) v) (h : w.S[n]? = some (.lst xs)) : ∃ a vs, v = .ref a ∧ w.L[n]? = some a ∧ w.H a = some (.lst vs) ∧ RVs K w.L w.hc xs vs := by
  obtain ⟨a, rfl, h2⟩ := r
  obtain ⟨vs, h3, h4⟩ := k.st n _ a h h2
  exact ⟨a, vs, rfl, h2, h3, h4⟩
theorem r2_ix : R2Sim K mg E (rIx K) gIx := fun w x y v u Q k rx ry g => by
  have fin : ∀ {o : Option PV}, Good (match o with | some y => Res.ok y w.S | none => Res.bad) (PostV K w Q) (ExP K mg E w) → ∃ y, o = some y ∧ PostV K w Q y w.S := fun {o} h => by
    cases o with
    | none => exact h.elim
    | some y => exact ⟨y, rfl, h⟩
  cases y <;> first | (cases x <;> exact g.elim) | skip
  rename_i i
  cases x <;> first | exact g.elim | skip
  · obtain ⟨c, g⟩ := good_if g
    rename_i z _
    cases e : atI z.cps.toList i with
    | none => rw [e] at g; exact g.elim
    | some c' =>
      rw [e] at g
      exact .inr (.inr ⟨z, i, c', rx, ry, sizeM_le c, e, post_self k g rfl rfl⟩)
  · obtain ⟨y, e, g⟩ := fin g
    obtain ⟨a, vs, rfl, r1, r2⟩ := rx
    obtain ⟨t, e1, e2⟩ := at_rv r2 e
    exact .inr (.inl ⟨a, vs, i, t, rfl, ry, hc_sqT r1, e1, post_self k g rfl e2⟩)
  · obtain ⟨y, e, g⟩ := fin g
    obtain ⟨a, vs, rfl, r1, r2⟩ := rx
    obtain ⟨t, e1, e2⟩ := at_rv r2 e
    exact .inl ⟨a, vs, i, t, rfl, ry, .inl (.inl (hc_lst r1)), e1, post_self k g rfl e2⟩
  · obtain ⟨y, e, g⟩ := fin g
    obtain ⟨a, vs, rfl, r1, r2⟩ := rx
    obtain ⟨t, e1, e2⟩ := at_rv r2 e
    exact .inl ⟨a, vs, i, t, rfl, ry, hc_sqL r1, e1, post_self k g rfl e2⟩
  · rename_i n
    have g : Good (match w.S[n]? with | some (.lst xs) => (match atI xs i with | some y => Res.ok y w.S | none => Res.bad) | none => Res.bad) (PostV K w Q) (ExP K mg E w) := g
    cases eS : w.S[n]? with
    | none => rw [eS] at g; exact g.elim
    | some o =>
      cases o with
      | lst xs =>
        rw [eS] at g
        obtain ⟨y, e, g⟩ := fin g
        obtain ⟨a, vs, rfl, _, r1, r2⟩ := st_at k rx eS
        obtain ⟨t, e1, e2⟩ := at_rv r2 e
        exact .inl ⟨a, vs, i, t, rfl, ry, .inl (.inl r1), e1, post_self k g rfl e2⟩
theorem cut_rv {L Hc} {xs : List PV} {vs : List V} (r : RVs K L Hc xs vs) (i j : Option Int) : RVs K L Hc (cutP xs i j) (cutV vs i j) := by
  unfold cutP cutV
  rw [r.len]
  exact (r.drop _).take _
theorem rsl : RSl K mg E (fun x lo hi H Q => rSlA K x lo hi H Q ∨ (rSlS x lo hi H Q ∨ rSlL K x lo hi H Q)) gSl := fun w x v i j Q k rx g => by
  cases x <;> first | exact g.elim | skip
  · obtain ⟨c, g⟩ := good_if g
    exact .inr (.inl ⟨_, rx, sizeM_le c, post_self k g rfl rfl⟩)
  · obtain ⟨a, vs, rfl, r1, r2⟩ := rx
    rename_i xs
    have g : PostV K w Q (.tup (cutP xs i j)) w.S := g
    refine .inl ⟨a, vs, rfl, hc_sqT r1, fun h => ?_, fun _ => post_tup k rfl (cut_rv r2 i j) g⟩
    have e : cutP xs i j = xs := by
      unfold cutP
      rw [← r2.len, h.1, h.2, r2.len]
      simp
    rw [e] at g
    exact post_self k g rfl ⟨a, vs, rfl, r1, r2⟩
  · obtain ⟨a, vs, rfl, r1, r2⟩ := rx
    rename_i xs
    have g : PostV K w Q (.lst (cutP xs i j)) w.S := g
    refine .inr (.inr ⟨a, vs, rfl, .inl (.inl (hc_lst r1)), fun p hp => ?_⟩)
    exact g (w.put p (.lst (cutV vs i j))) (.ref p) rfl (put_step k hp) (put_ok k hp) ⟨p, _, rfl, put_at k hp, (cut_rv r2 i j).mono (List.prefix_refl _) (put_ext hp)⟩

/-! built-ins -/
theorem vs1 {L Hc} {x : PV} {vs : List V} (r : RVs K L Hc [x] vs) : ∃ v, vs = [v] ∧ RV K L Hc x v := by
  obtain ⟨v, t, rfl, h1, h2⟩ := r
  have h2 : t = [] := h2
  subst h2
  exact ⟨v, rfl, h1⟩
theorem ra_len : RASim K mg E (fun xs H Q => ∃ x n, xs = [x] ∧ LenV K x H n ∧ Q (.int n) H) gLen := fun w xs vs Q k r g => by
  match xs, g, r with
  | [.tup ys], g, r =>
    obtain ⟨v, rfl, a, us, rfl, r1, r2⟩ := vs1 r
    exact ⟨_, _, rfl, .inr ⟨us, hc_sqT r1, r2.len.symm⟩, post_self k g rfl rfl⟩
  | [.lst ys], g, r =>
    obtain ⟨v, rfl, a, us, rfl, r1, r2⟩ := vs1 r
    exact ⟨_, _, rfl, .inl ⟨us, .inl (.inl (hc_lst r1)), r2.len.symm⟩, post_self k g rfl rfl⟩
  | [.cl ys], g, r =>
    obtain ⟨v, rfl, a, us, rfl, r1, r2⟩ := vs1 r
    exact ⟨_, _, rfl, .inl ⟨us, hc_sqL r1, r2.len.symm⟩, post_self k g rfl rfl⟩
  | [.str z], g, r =>
    obtain ⟨v, rfl, rfl⟩ := vs1 r
    obtain ⟨c, g⟩ := good_if g
    exact ⟨_, _, rfl, ⟨sizeM_le c, rfl⟩, post_self k g rfl rfl⟩
  | [.obj n], g, r =>
    obtain ⟨v, rfl, r1⟩ := vs1 r
    have g : Good (match w.S[n]? with | some (.lst xs) => Res.ok (.int xs.length) w.S | none => Res.bad) (PostV K w Q) (ExP K mg E w) := g
    cases eS : w.S[n]? with
    | none => rw [eS] at g; exact g.elim
    | some o =>
      cases o with
      | lst ys =>
        rw [eS] at g
        obtain ⟨a, us, rfl, _, r2, r3⟩ := st_at k r1 eS
        exact ⟨_, _, rfl, .inl ⟨us, .inl (.inl r2), r3.len.symm⟩, post_self k g rfl rfl⟩
theorem ra_int : RASim K mg E (fun xs H Q => (∃ i, xs = [V.int i] ∧ Q (.int i) H) ∨ ∃ k, xs = [V.bl k] ∧ Q (.int (if k then 1 else 0)) H) gInt := fun w xs vs Q k r g => by
  match xs, g, r with
  | [.int i], g, r =>
    obtain ⟨v, rfl, rfl⟩ := vs1 r
    exact .inl ⟨_, rfl, post_self k g rfl rfl⟩
  | [.bl i], g, r =>
    obtain ⟨v, rfl, rfl⟩ := vs1 r
    exact .inr ⟨_, rfl, post_self k g rfl rfl⟩
theorem ra_abs : RASim K mg E (fun xs H Q => ∃ i, xs = [V.int i] ∧ Q (.int (if i < 0 then -i else i)) H) gAbs := fun w xs vs Q k r g => by
  match xs, g, r with
  | [.int i], g, r =>
    obtain ⟨v, rfl, rfl⟩ := vs1 r
    exact ⟨_, rfl, post_self k g rfl rfl⟩
theorem ra_tuple : RASim K mg E (fun xs H Q => ∃ p ys, xs = [V.ref p] ∧ ((SqL K H p ys ∧ ∀ l, H l = none → Q (.ref l) (upd H l (.tup ys))) ∨ (SqT K H p ys ∧ Q (.ref p) H))) gTuple := fun w xs vs Q k r g => by
  match xs, g, r with
  | [.tup ys], g, r =>
    obtain ⟨v, rfl, a, us, rfl, r1, r2⟩ := vs1 r
    exact ⟨a, us, rfl, .inr ⟨hc_sqT r1, post_self k g rfl ⟨a, us, rfl, r1, r2⟩⟩⟩
  | [.lst ys], g, r =>
    obtain ⟨v, rfl, a, us, rfl, r1, r2⟩ := vs1 r
    exact ⟨a, us, rfl, .inl ⟨.inl (.inl (hc_lst r1)), post_tup k rfl r2 g⟩⟩
  | [.cl ys], g, r =>
    obtain ⟨v, rfl, a, us, rfl, r1, r2⟩ := vs1 r
    exact ⟨a, us, rfl, .inl ⟨hc_sqL r1, post_tup k rfl r2 g⟩⟩
theorem ra_list : RAN K mg E (fun xs H Q => ∃ p ys, xs = [V.ref p] ∧ (SqL K H p ys ∨ SqT K H p ys) ∧ ∀ l, H l = none → Q (.ref l) (upd H l (.lst ys))) gList := fun w xs vs Q k r g => by
  match xs, g, r with
  | [.tup ys], g, r =>
    obtain ⟨v, rfl, a, us, rfl, r1, r2⟩ := vs1 r
    exact ⟨a, us, rfl, .inr (hc_sqT r1), post_lst k rfl r2 g⟩
  | [.lst ys], g, r =>
    obtain ⟨v, rfl, a, us, rfl, r1, r2⟩ := vs1 r
    exact ⟨a, us, rfl, .inl (.inl (.inl (hc_lst r1))), post_lst k rfl r2 g⟩
  | [.cl ys], g, r =>
    obtain ⟨v, rfl, a, us, rfl, r1, r2⟩ := vs1 r
    exact ⟨a, us, rfl, .inl (hc_sqL r1), post_lst k rfl r2 g⟩
theorem toBls_rv {L Hc} : ∀ {xs : List PV} {bs : List Bool} {vs : List V}, xs.mapM toBl = some bs → RVs K L Hc xs vs → vs = bs.map V.bl
  | [], us, vs, h, r => by
    simp at h
    subst h
    exact r
  | x :: xs, us, vs, h, r => by
    obtain ⟨v, r', rfl, r1, r2⟩ := r
    rw [List.mapM_cons] at h
    cases e : toBl x with
    | none => rw [e] at h; cases h
    | some a =>
      rw [e] at h
      cases e2 : xs.mapM toBl with
      | none => rw [e2] at h; cases h
      | some b =>
        rw [e2] at h
        cases h
        rw [toBls_rv e2 r2]
        cases x <;> cases e
        have r1 : v = .bl _ := r1
        rw [r1]
        rfl
theorem toIs_rv {L Hc} : ∀ {xs : List PV} {bs : List Int} {vs : List V}, xs.mapM toI = some bs → RVs K L Hc xs vs → vs = bs.map V.int
  | [], us, vs, h, r => by
    simp at h
    subst h
    exact r
  | x :: xs, us, vs, h, r => by
    obtain ⟨v, r', rfl, r1, r2⟩ := r
    rw [List.mapM_cons] at h
    cases e : toI x with
    | none => rw [e] at h; cases h
    | some a =>
      rw [e] at h
      cases e2 : xs.mapM toI with
      | none => rw [e2] at h; cases h
      | some b =>
        rw [e2] at h
        cases h
        rw [toIs_rv e2 r2]
        cases x <;> cases e
        have r1 : v = .int _ := r1
        rw [r1]
        rfl
theorem ra_all : RASim K mg E (rAll K) gAll := fun w xs vs Q k r g => by
  match xs, g, r with
  | [.lst ys], g, r =>
    obtain ⟨v, rfl, a, us, rfl, r1, r2⟩ := vs1 r
    have g : Good (match ys.mapM toBl with | some bs => Res.ok (.bl (bs.all id)) w.S | none => Res.bad) (PostV K w Q) (ExP K mg E w) := g
    cases e : ys.mapM toBl with
    | none => rw [e] at g; exact g.elim
    | some bs =>
      rw [e] at g
      exact ⟨a, bs, rfl, .inl (.inl (by rw [← toBls_rv e r2]; exact hc_lst r1)), post_self k g rfl rfl⟩
theorem ra_any : RASim K mg E (rAny K) gAny := fun w xs vs Q k r g => by
  match xs, g, r with
  | [.lst ys], g, r =>
    obtain ⟨v, rfl, a, us, rfl, r1, r2⟩ := vs1 r
    have g : Good (match ys.mapM toBl with | some bs => Res.ok (.bl (bs.any id)) w.S | none => Res.bad) (PostV K w Q) (ExP K mg E w) := g
    cases e : ys.mapM toBl with
    | none => rw [e] at g; exact g.elim
    | some bs =>
      rw [e] at g
      exact ⟨a, bs, rfl, .inl (.inl (by rw [← toBls_rv e r2]; exact hc_lst r1)), post_self k g rfl rfl⟩
theorem ra_sum : RASim K mg E (rSum K) gSumL := fun w xs vs Q k r g => by
  match xs, g, r with
  | [.lst ys], g, r =>
    obtain ⟨v, rfl, a, us, rfl, r1, r2⟩ := vs1 r
    have g : Good (match ys.mapM toI with | some bs => Res.ok (.int bs.sum) w.S | none => Res.bad) (PostV K w Q) (ExP K mg E w) := g
    cases e : ys.mapM toI with
    | none => rw [e] at g; exact g.elim
    | some bs =>
      rw [e] at g
      exact ⟨a, bs, rfl, .inl (.inl (by rw [← toIs_rv e r2]; exact hc_lst r1)), post_self k g rfl rfl⟩
/-- a value's type -/
theorem tyx_of {L : List Addr} {H Hc : Hp} (e : ∀ a o, Hc a = some o → H a = some o) {x : PV} {v : V} {a : String} (h : tyP x = some a) (r : RV K L Hc x v) : TyX K H v (.type a) := by
  cases x <;> cases h
  · have r : v = .non := r
    subst r; exact .base .non
  · have r : v = .bl _ := r
    subst r; exact .base (.bl _)
  · have r : v = .int _ := r
    subst r; exact .base (.int _)
  · have r : v = .str _ := r
    subst r; exact .base (.str _)
  · obtain ⟨p, vs, rfl, r1, r2⟩ := r
    rcases r1 with (r1 | ⟨o, r1⟩) | ⟨o, its, n, l, c, _⟩
    · exact .base (.tup (e _ _ r1))
    · exact .fTuple (e _ _ r1)
    · exact .kTuple l c
  · obtain ⟨p, vs, rfl, r1, r2⟩ := r
    exact .base (.lst (e _ _ r1))
  · obtain ⟨p, vs, rfl, r1, r2⟩ := r
    rcases r1 with (r1 | ⟨o, r1⟩) | ⟨o, its, n, l, c, _⟩
    · exact .base (.lst (e _ _ r1))
    · exact .base (.frz (e _ _ r1))
    · exact .kList l c
end

section
variable {X : Cx} {G : Wd} {E : XK}
/-- isinstance(e, T), T a built-in type -/
def mIsi (T : String) (f : Rho → Store → Res PV) : Rho → Store → Res PV := fun ρ S => (f ρ S).bind fun x S1 => gIsi T x S1
theorem fe_isi {T : String} {Tn : Str} {p pT pos e te f} (hm : X.mg "isinstance" = none) (hT : X.mg Tn = none) (he : FE X G E e te f) (hg : Gl X "isinstance" := by rfl) (hgT : Gl X Tn := by rfl) (hb : bootBuiltins Tn = some (.type T) := by decide +kernel) (hn : Tn ≠ "__name__" := by decide) (hdb : (Tn == ("__debug__" : Str)) = false := by decide)
    (hs : starEach [e, .Name Tn pT] X.env = (false, eval e X.env) :: starEach [.Name Tn pT] X.env := by rfl) (hpl : (backTo pos (starEach [.Name Tn pT] X.env)).any (·.1) = false := by rfl) (hs2 : starEach [.Name Tn pT] X.env = (false, eval (.Name Tn pT) X.env) :: starEach [] X.env := by rfl) :
    FE X G E (.Call (.Name "isinstance" p) [e, .Name Tn pT] [] pos) (tCB (rIsi X.K) (tCons te (tCons (tC (.ty T)) tNil))) (mIsi T f) :=
  ⟨pe_callB call_isi hg hm (by decide +kernel) (pa_cons he.pe (pa_cons (pe_bltn hgT hT hb rfl hn hdb) pa_nil hs2) hs) (by decide) (by decide) hs hpl, fun w ρ σ Q I q => by
  refine he.sim w ρ σ _ I (Good.imp (Good.bind1 q) (fun x S1 h1 => ?_) fun _ _ _ h => h)
  intro w1 v e1 s1 k1 r1
  subst e1
  unfold gIsi at h1
  split at h1
  · rename_i a ea
    split at h1
    · rename_i b eb
      exact ⟨v, .ty T, .type a, .type T, b, rfl, .ty T, tyx_of (fun a o h => (cut_some h).2) ea r1, kit_ty eb, h1 w1 (.bl b) rfl s1 k1 rfl⟩
    · exact h1.elim
  · exact h1.elim⟩

/-! ### lists of ours, changed -/
theorem fs_append {i : Nat} {x : Str} {px pa pc pos e te f} (he : FE X G E e te f) (hx : PE X (.Name x px) (tVar i)) (pe : PS X (.Expr (.Call (.Attribute (.Name x px) "append" pa) [e] [] pc) pos) (tDrop (tBM X.K "list" rAppend (tVar i) (tCons te tNil)))) :
    FS X G E (.Expr (.Call (.Attribute (.Name x px) "append" pa) [e] [] pc) pos) (tDrop (tBM X.K "list" rAppend (tVar i) (tCons te tNil))) (mAppend i f) := ⟨pe, fun w ρ σ D I q => by
  unfold mAppend at q
  split at q
  · rename_i o hi
    obtain ⟨p, a, b, c, d, r⟩ := I.own i o hi
    cases o with
    | lst xs =>
      obtain ⟨vs, r1, r2⟩ := r
      refine ⟨.ref p, a, .inl ⟨rfl, vs, .inl (.inl r1)⟩, he.sim w ρ σ _ I (Good.imp (Good.bind1 q) (fun y S1 h1 => ?_) fun _ _ _ h => h.step I.stp I.gok I.ok)⟩
      intro w1 v e1 s1 k1 rv
      rw [hi] at h1
      obtain ⟨hsz, h1⟩ := good_if h1
      have I1 := I.step s1 k1
      have g1 : w1.H p = some (.lst vs) := s1.keep p _ r1 c
      have hO := s1.omono p b
      have hL : p ∉ w1.L := fun z => by
        rcases s1.lset p z with y | y
        · exact c y
        · rw [r1] at y; cases y
      refine ⟨p, vs, v, rfl, rfl, g1, by rw [r2.len]; exact sizeM_lt hsz, ?_⟩
      exact h1 (w1.wr p (.lst (vs ++ [v]))) σ e1 ((s1.v I.ok.sub).trans (wr_v hO)) (I1.wrOwn hi a hO hL d ⟨_, rfl, (r2.mono s1.pre (s1.ext I.ok.sub)).append (RVs.one rv)⟩)
  · exact q.elim⟩
theorem sim_setIx {i : Nat} {tk te fk f} (he : ESim X.K X.mg G E te f) (hk : ESim X.K X.mg G E tk fk) : SSim X.K X.mg G E (tAsg te (L2.gSub (tVar i) tk rSetL)) (mSetIx i fk f) := fun w ρ σ D I q => by
  refine he w ρ σ _ I (Good.imp (Good.bind1 q) (fun y S1 h1 => ?_) fun _ _ _ h => h.step I.stp I.gok I.ok)
  intro w1 v e1 s1 k1 rv
  subst e1
  have I1 := I.step s1 k1
  cases hi : ρ[i]? with
  | none => rw [hi] at h1; exact h1.elim
  | some sl =>
    cases sl with
    | none => rw [hi] at h1; exact h1.elim
    | pin c fs => rw [hi] at h1; exact h1.elim
    | own o =>
      cases o with
      | lst xs =>
        rw [hi] at h1
        obtain ⟨p, a, b, c, d, vs, r1, r2⟩ := I1.own i _ hi
        refine ⟨.ref p, a, hk w1 ρ σ _ I1 (Good.imp (Good.bind1 h1) (fun k S2 h2 => ?_) fun _ _ _ h => h.step I1.stp I1.gok I1.ok)⟩
        intro w2 u e2 s2 k2 rk
        subst e2
        have I2 := I1.step s2 k2
        cases k <;> first | exact h2.elim | skip
        rename_i j
        have h2 : Good (match ixN xs.length j with | some j' => Res.ok (Out.nx (ρ.set i (.own (.lst (xs.set j' y))))) w2.S | none => Res.bad) (PostS X.K G w D) (ExP X.K X.mg E G) := h2
        cases ej : ixN xs.length j with
        | none => rw [ej] at h2; exact h2.elim
        | some j' =>
          rw [ej] at h2
          have g2 : w2.H p = some (.lst vs) := s2.keep p _ r1 c
          have hO := s2.omono p b
          have hL : p ∉ w2.L := fun z => by
            rcases s2.lset p z with y | y
            · exact c y
            · rw [r1] at y; cases y
          refine ⟨p, vs, j, j', rfl, rk, g2, by rw [r2.len]; exact ej, ?_⟩
          exact h2 (w2.wr p (.lst (vs.set j' v))) σ rfl (((s1.v I.ok.sub).trans (s2.v k1.sub)).trans (wr_v hO)) (I2.wrOwn hi a hO hL d ⟨_, rfl, (r2.mono s2.pre (s2.ext k1.sub)).set (rv.mono s2.pre (s2.ext k1.sub)) _⟩)
    | val z =>
      cases z with
      | obj n =>
        rw [hi] at h1
        obtain ⟨v0, a, r0⟩ := I1.val i _ hi
        refine ⟨v0, a, hk w1 ρ σ _ I1 (Good.imp (Good.bind1 h1) (fun k S2 h2 => ?_) fun _ _ _ h => h.step I1.stp I1.gok I1.ok)⟩
        intro w2 u e2 s2 k2 rk
        subst e2
        have I2 := I1.step s2 k2
        cases k <;> first | exact h2.elim | skip
        rename_i j
        have h2 : Good (match w2.S[n]? with
          | some (.lst xs) => (match ixN xs.length j with | some j' => Res.ok (Out.nx ρ) (w2.S.set n (.lst (xs.set j' y))) | none => Res.bad)
          | none => Res.bad) (PostS X.K G w D) (ExP X.K X.mg E G) := h2
        cases eS : w2.S[n]? with
        | none => rw [eS] at h2; exact h2.elim
        | some o =>
          cases o with
          | lst xs =>
            rw [eS] at h2
            cases ej : ixN xs.length j with
            | none => simp only [ej] at h2; exact h2.elim
            | some j' =>
              simp only [ej] at h2
              have r0' := r0.mono s2.pre (s2.ext k1.sub)
              obtain ⟨p, vs, rfl, hp, r1, r2⟩ := st_at k2 r0' eS
              have rv2 := rv.mono s2.pre (s2.ext k1.sub)
              have k3 := put2_ok (ho := .lst (vs.set j' v)) (o := .lst (xs.set j' y)) k2 hp ⟨_, rfl, r2.set rv2 _⟩
              have s3 := put2_step (ho := .lst (vs.set j' v)) (o := .lst (xs.set j' y)) k2 hp
              refine ⟨p, vs, j, j', rfl, rk, r1, by rw [r2.len]; exact ej, ?_⟩
              exact h2 (w2.put2 p (.lst (vs.set j' v)) n (.lst (xs.set j' y))) σ rfl (((s1.v I.ok.sub).trans (s2.v k1.sub)).trans (s3.v k2.sub)) (I2.step s3 k3)
      | non => rw [hi] at h1; exact h1.elim
      | bl b => rw [hi] at h1; exact h1.elim
      | int b => rw [hi] at h1; exact h1.elim
      | str b => rw [hi] at h1; exact h1.elim
      | tup b => rw [hi] at h1; exact h1.elim
      | lst b => rw [hi] at h1; exact h1.elim
      | cl b => rw [hi] at h1; exact h1.elim
theorem fs_setIx {i : Nat} {x : Str} {px pt pos k e tk te fk f} (he : FE X G E e te f) (hk : FE X G E k tk fk) (pe : PS X (.Assign [.Subscript (.Name x px) k pt] e pos) (tAsg te (L2.gSub (tVar i) tk rSetL))) :
    FS X G E (.Assign [.Subscript (.Name x px) k pt] e pos) (tAsg te (L2.gSub (tVar i) tk rSetL)) (mSetIx i fk f) := ⟨pe, sim_setIx he.sim hk.sim⟩
end

/-! ### defs -/
/-- what a def promises: what its mirror gives -/
def spM (K : PySem.W.Frag) (mg : Str → Option Value) (n : Nat) (m : List PV → Store → Res PV) : Sp := fun vs H Q E => ∃ xs w, w.H = H ∧ WOk K w ∧ RVs K w.L w.hc xs vs ∧ xs.length = n ∧ Good (m xs w.S) (PostX K w Q) (ExP K mg E w)
def rho0 (nN : Nat) (xs : List PV) : Rho := xs.map Slot.val ++ List.replicate (nN - xs.length) Slot.none
def toRet : Out → Store → Res PV
  | .rt x, S => .ok x S
  | .nx _, S => .ok .non S
  | _, _ => .bad
def mDef (nN : Nat) (f : Rho → Store → Res Out) : List PV → Store → Res PV := fun xs S => (f (rho0 nN xs) S).bind toRet
theorem FI.begin {K : PySem.W.Frag} {w : Wd} {xs : List PV} {vs : List V} {N : List Str} (k : WOk K w) (r : RVs K w.L w.hc xs vs) : FI K w w (rho0 N.length xs) (start N vs) := by
  have e : vs.length = xs.length := r.len
  refine ⟨k, k, WStep.refl k.sub, by unfold rho0 L2.start; simp [e], fun i x h => ?_, fun i o h => ?_, fun i j oi oj _ h => ?_, fun i c fs h => ?_⟩
  · unfold rho0 at h
    by_cases hi : i < xs.length
    · rw [List.getElem?_append_left (by simpa using hi), List.getElem?_map] at h
      rw [List.getElem?_eq_getElem hi] at h
      cases h
      obtain ⟨v, e1, e2⟩ := r.get (List.getElem?_eq_getElem hi)
      refine ⟨v, ?_, e2⟩
      unfold L2.start
      rw [List.getElem?_append_left (by simpa [e] using hi), List.getElem?_map, e1]
      rfl
    · rw [List.getElem?_append_right (by simpa using hi)] at h
      have := List.mem_of_getElem? h
      rw [List.mem_replicate] at this
      cases this.2
  all_goals
    have := List.mem_of_getElem? h
    unfold rho0 at this
    rw [List.mem_append, List.mem_map, List.mem_replicate] at this
    rcases this with ⟨_, _, e⟩ | ⟨_, e⟩ <;> cases e
theorem sim_def {K : PySem.W.Frag} {mg : Str → Option Value} {N : List Str} {n : Nat} {t : TS} {f : Rho → Store → Res Out} {vs : List V} {H : Hp} {Q : VK} {E : XK} (h : spM K mg n (mDef N.length f) vs H Q E) (hs : ∀ G, SSim K mg G E t f) :
    t { nx := fun _ H' => Q .non H', rt := Q } (start N vs) H := by
  obtain ⟨xs, w, rfl, k, r, hl, g⟩ := h
  refine hs w w _ _ _ (FI.begin k r) (Good.imp (Good.bind1 g) (fun o S h => ?_) fun _ _ _ h => h)
  cases o with
  | nx ρ => exact fun w' σ' e _ I => h w' .non e I.stp I.ok rfl
  | rt x => exact h
  | bk ρ => exact h.elim
  | ct ρ => exact h.elim
theorem spM_len {K : PySem.W.Frag} {mg : Str → Option Value} {n : Nat} {m} : ∀ vs H Q E, spM K mg n m vs H Q E → vs.length = n := fun vs H Q E ⟨xs, w, _, _, r, hl, _⟩ => r.len.trans hl
/-! ### defs that know that no repr is running -/
/-- a def at f keeps the promise sp wherever no guarded built-in (a repr) runs around it -/
structure FnG (P : Program) (w : World) (K : PySem.W.Frag) (mg : Str → Option Value) (base : Heap) (k : Nat) (f : Addr) (fd : FuncData) (ps : List Str) (sp : Sp) : Prop where
  arity : ∀ vs H Q E, sp vs H Q E → vs.length = ps.length
  go : ∀ (A : Around) (outer : List Env) (s : Shared) (H : Hp) (args : Args) (us : List Value) (vs : List V) (Q : VK) (E : XK), A.guards = some [] → Room k A →
    Env0 P w K mg base A outer s H → BindsTo s fd args (ps.zip us) → Vals vs us → sp vs H Q E → codeAny (model P w) A (.call (.ref f) args) (CR (L2.CX P w) outer P w H s Q E) s
theorem FnG.up {P : Program} {w : World} {K : PySem.W.Frag} {mg : Str → Option Value} {base : Heap} {j k : Nat} {f : Addr} {fd : FuncData} {ps : List Str} {sp : Sp} (F : FnG P w K mg base j f fd ps sp) (h : j ≤ k) : FnG P w K mg base k f fd ps sp :=
  ⟨F.arity, fun A outer s H args us vs Q E hg hr => F.go A outer s H args us vs Q E hg (hr.mono h)⟩
theorem fnG_of {P : Program} {w : World} {K : PySem.W.Frag} {mg : Str → Option Value} {base : Heap} {k : Nat} {x qual : Str} {st : Stmt} {f : Addr} {fd : FuncData} {N ps : List Str} {sp : Sp} (F : Fun K x qual st f fd) (S : FnScope N ps (defScope st))
    (ar : ∀ vs H Q E, sp vs H Q E → vs.length = ps.length)
    (body : ∀ (cdv : Value) (A : Around) (outer : List Env) (s : Shared) (H : Hp) (vs : List V) (Q : VK) (E : XK), A.guards = some [] → Room k (A.deeper (envOfC qual (defScope st) s.heap.objs.size f cdv)) → sp vs H Q E →
      ∃ t, PSs (cxOf (L2.CX P w) P w K mg base N qual (defScope st) f cdv A outer s H E) (defBody st) t ∧ t { nx := fun _ H' => Q .non H', rt := Q } (L2.start N vs) H) :
    FnG P w K mg base (k + 1) f fd ps sp := by
  obtain ⟨oc, od, kV, doc, pm, an, cdv, ct, osl, rfl, lk, hcd⟩ := F.ex
  refine ⟨ar, fun A outer s H args us vs Q E hgd hr e0 hb r hsp => ?_⟩
  have inK : K.In s.heap := e0.mod.kin.keeps fun a u z => (e0.bs a u z).1
  have kinds : ∀ y ∈ ps.zip us, (defScope st).names.lookup y.1 = some .local ∨ ((defScope st).names.lookup y.1 = some .cell ∧ ((cellsFrom (s.heap.objs.size + 1) (defScope st).names []).lookup y.1).isSome = true) := by
    rintro ⟨n, v⟩ hy
    exact (S.par n (List.of_mem_zip hy).1).imp id fun q => ⟨q, PySem.W.cellsFrom_some _ _ _ (.inl q)⟩
  refine codeAny_call_function hr.depth (inK _ _ lk) rfl S.co S.gen rfl (PySem.W.codeRec_of inK hcd) (hb _ _ _ _ (wpAny_newFunctionEnv_cells S.kind kinds fun env he s1 x => ?_))
  subst he
  refine ⟨(e0.mod.nolimit.keeps fun a u z => (e0.bs a u z).1).keeps x.toInCall.keep, codeAny_func ?_⟩
  obtain ⟨t, ht, hq⟩ := body cdv A outer s H vs Q E hgd (hr.deeper _) hsp
  have I0 := inv_start (CX := L2.CX P w) (E := E) (cd := cdv) (qual := qual) (f := f) S hr.hd e0 (ar _ _ _ _ hsp) r x
  refine wpAny_mono (ht.run [] s1 (L2.start N vs) H _ I0 hq) (fun fl s' hs => ?_) fun _ _ z => z
  cases fl with
  | ret u => exact let ⟨v, _, H', J, rv, q⟩ := hs; ⟨v, H', J.os, J.bare, J.base, J.hok, rv, q⟩
  | next => exact let ⟨_, H', J, q⟩ := hs; ⟨V.non, H', J.os, J.bare, J.base, J.hok, rfl, q⟩
  | brk => exact let ⟨_, _, _, q⟩ := hs; q.elim
  | cont => exact let ⟨_, _, _, q⟩ := hs; q.elim
/-- a def whose mirror is known -/
theorem ok_def {P : Program} {w : World} {K : PySem.W.Frag} {mg : Str → Option Value} {base : Heap} {x qual : Str} {st : Stmt} {f : Addr} {fd : FuncData} {N ps : List Str} {k : Nat} {fm : Rho → Store → Res Out}
    (F : Fun K x qual st f fd) (S : FnScope N ps (defScope st))
    (body : ∀ (cdv : Value) (A : Around) (outer : List Env) (s : Shared) (H : Hp) (E : XK), A.guards = some [] → Room k (A.deeper (envOfC qual (defScope st) s.heap.objs.size f cdv)) →
      ∃ ts, ∀ G, FSs (cxOf (L2.CX P w) P w K mg base N qual (defScope st) f cdv A outer s H E) G E (defBody st) ts fm) :
    FnG P w K mg base (k + 1) f fd ps (spM K mg ps.length (mDef N.length fm)) := by
  refine fnG_of F S spM_len fun cdv A outer s H vs Q E hg hr h => ?_
  obtain ⟨ts, hb⟩ := body cdv A outer s H E hg hr
  exact ⟨ts, (hb ⟨[], [], fun _ => none, [], none⟩).pe, sim_def h fun G => (hb G).sim⟩
section
variable {X : Cx} {k : Nat} {f : Addr} {fd : FuncData} {ps ks : List Str} {sp : Sp} {E : XK} {x : Str} {p pos : Pos} {e : Expr} {es : List Expr} {t tk : TA}
theorem goG {pins : List (Addr × Obj)} {σ : L2.St} {H : Hp} {s : Shared} {Q : VK} {args : Args} {us : List Value} {vs : List V} (F : FnG X.prog X.w X.K X.mg X.base k f fd ps sp) (hg : X.A.guards = some []) (hr : Room k X.A) (hx : Passes (L2.CX X.prog X.w) X E) (I : Inv X pins σ H s)
    (hb : BindsTo s fd args (ps.zip us)) (r : Vals vs us) (h : sp vs H Q E) : codeAny (model X.prog X.w) X.A (.call (.ref f) args) (fun r s' => match r with | .ok (.ret u) => EP X pins σ Q u s' | .ok _ => False | .error e => X.xe e s') s := by
  refine codeAny_mono (F.go X.A X.stack s H args us vs Q E hg hr I.env0 hb r h) fun r s' hq => ?_
  match r, hq with
  | .error e, hq => exact hx pins σ H s e s' I hq
  | .ok (.ret u), hq => exact I.after hq
theorem callG {pins : List (Addr × Obj)} {σ : L2.St} {H : Hp} {s : Shared} {Q : VK} {kw : List (Str × Value)} {us0 us : List Value} {vs : List V} (F : FnG X.prog X.w X.K X.mg X.base k f fd ps sp) (hg : X.A.guards = some []) (hr : Room k X.A) (hx : Passes (L2.CX X.prog X.w) X E) (I : Inv X pins σ H s)
    (hb : BindsTo s fd ⟨us0, kw⟩ (ps.zip us)) (r : Vals vs us) (h : sp vs H Q E) : wpAny (model X.prog X.w) X.A (call (.ref f) us0 kw) (EP X pins σ Q) X.xe s := by
  refine wpAny_call (codeAny_mono (goG F hg hr hx I hb r h) fun r s' hq => ?_)
  match r, hq with
  | .error e, hq => exact hq
  | .ok (.ret u), hq => exact hq
theorem peG_call {dvs : List V} {ds : List Value} (F : FnG X.prog X.w X.K X.mg X.base k f fd ps sp) (hg0 : X.A.guards = some []) (hr : Room k X.A) (hg : Gl X x) (hm : X.mg x = some (.ref f)) (hk : PySem.W.keepIn X.K (.ref f) = true) (hb : Binds X.K fd ps ds) (hd : Vals dvs ds) (hx : Passes (L2.CX X.prog X.w) X E)
    (ha : PA X (e :: es) t) (hdb : (x == ("__debug__" : Str)) = false) (he : starEach (e :: es) X.env = (false, eval e X.env) :: starEach es X.env) (hpl : (backTo pos (starEach es X.env)).any (·.1) = false) : PE X (.Call (.Name x p) (e :: es) [] pos) (tCall sp dvs E t) :=
  ⟨fun pins s σ H Q I h => wpAny_Call_Name_kw (ld_glob I hg hm (PySem.W.callWith_K (h₀ := X.base) I.ok.mod.kin hk (thn (ha.run pos pins s σ H _ I h) fun us s1 ⟨vs, H1, I1, r, q⟩ => ⟨I1.kIn, by
    have r2 := r.append hd
    refine callG F hg0 hr hx I1 (hb s1 us I1.kIn ?_) r2 q
    rw [← r2.length]
    exact F.arity _ _ _ _ q⟩) he hpl) hdb)⟩
theorem peG_call0 {dvs : List V} {ds : List Value} (F : FnG X.prog X.w X.K X.mg X.base k f fd ps sp) (hg0 : X.A.guards = some []) (hr : Room k X.A) (hg : Gl X x) (hm : X.mg x = some (.ref f)) (hk : PySem.W.keepIn X.K (.ref f) = true) (hb : Binds X.K fd ps ds) (hd : Vals dvs ds) (hx : Passes (L2.CX X.prog X.w) X E)
    (hdb : (x == ("__debug__" : Str)) = false) : PE X (.Call (.Name x p) [] [] pos) (tCall sp dvs E tNil) :=
  ⟨fun pins s σ H Q I h => wpAny_Call_Name_kw (ld_glob I hg hm (PySem.W.callWith_K0 I.kIn hk (by
    have r2 : Vals ([] ++ dvs) ([] ++ ds) := hd
    refine callG (us0 := []) F hg0 hr hx I (hb s [] I.kIn ?_) r2 h
    rw [← r2.length]
    exact F.arity _ _ _ _ h)) hdb)⟩
variable {kws : List Keyword} {g : List Value → List Value → List Value} {gV : List V → List V → List V}
theorem callGK {pins : List (Addr × Obj)} {σ : L2.St} {H : Hp} {s : Shared} {Q : VK} {us ws : List Value} {vs zs : List V} (F : FnG X.prog X.w X.K X.mg X.base k f fd ps sp) (hg0 : X.A.guards = some []) (hr : Room k X.A) (hb : KBinds X.K fd ps ks g gV) (hx : Passes (L2.CX X.prog X.w) X E)
    (I : Inv X pins σ H s) (r : Vals vs us) (rz : Vals zs ws) (h : sp (gV vs zs) H Q E) : wpAny (model X.prog X.w) X.A (call (.ref f) us (ks.zip ws)) (EP X pins σ Q) X.xe s := by
  have r2 := hb.rel r rz
  refine callG F hg0 hr hx I (hb.to s us ws I.kIn ?_) r2 h
  rw [← r2.length]
  exact F.arity _ _ _ _ h
theorem peG_callK (F : FnG X.prog X.w X.K X.mg X.base k f fd ps sp) (hg0 : X.A.guards = some []) (hr : Room k X.A) (hg : Gl X x) (hm : X.mg x = some (.ref f)) (hk : PySem.W.keepIn X.K (.ref f) = true) (hb : KBinds X.K fd ps ks g gV) (hx : Passes (L2.CX X.prog X.w) X E)
    (ha : PA X (e :: es) t) (hkw : PK X kws tk) (hall : (backToKw pos (keywordEach kws X.env)).all (·.1.isSome) = true) (hks : (backToKw pos (keywordEach kws X.env)).filterMap (·.1) = ks)
    (hdb : (x == ("__debug__" : Str)) = false) (he : starEach (e :: es) X.env = (false, eval e X.env) :: starEach es X.env)
    (hpl : ((backTo pos (starEach (e :: es) X.env)).any (·.1) || (backToKw pos (keywordEach kws X.env)).any (·.1.isNone)) = false) : PE X (.Call (.Name x p) (e :: es) kws pos) (tCallK sp gV E t tk) :=
  ⟨fun pins s σ H Q I h => wpAny_Call_Name_kw (ld_glob I hg hm (PySem.W.callWith_KW (h₀ := X.base) I.ok.mod.kin hk hall (thn (ha.run pos pins s σ H _ I h) fun us s1 ⟨vs, H1, I1, r, q⟩ =>
    thn (hkw.run pos pins s1 σ H1 _ I1 q) fun ws s2 ⟨zs, H2, I2, rz, q2⟩ => ⟨I2.kIn, by rw [hks]; exact callGK F hg0 hr hb hx I2 r rz q2⟩) hpl he) hdb)⟩
theorem peG_callK0 (F : FnG X.prog X.w X.K X.mg X.base k f fd ps sp) (hg0 : X.A.guards = some []) (hr : Room k X.A) (hg : Gl X x) (hm : X.mg x = some (.ref f)) (hk : PySem.W.keepIn X.K (.ref f) = true) (hb : KBinds X.K fd ps ks g gV) (hx : Passes (L2.CX X.prog X.w) X E)
    (hkw : PK X kws tk) (hall : (backToKw pos (keywordEach kws X.env)).all (·.1.isSome) = true) (hks : (backToKw pos (keywordEach kws X.env)).filterMap (·.1) = ks) (hdb : (x == ("__debug__" : Str)) = false)
    (hpl : ((backTo pos (starEach [] X.env)).any (·.1) || (backToKw pos (keywordEach kws X.env)).any (·.1.isNone)) = false) : PE X (.Call (.Name x p) [] kws pos) (tCallK sp gV E tNil tk) :=
  ⟨fun pins s σ H Q I h => wpAny_Call_Name_kw (ld_glob I hg hm (PySem.W.callWith_KW0 (h₀ := X.base) I.ok.mod.kin hk hall (thn (hkw.run pos pins s σ H _ I h) fun ws s2 ⟨zs, H2, I2, rz, q2⟩ => ⟨I2.kIn, by rw [hks]; exact callGK (us := []) (vs := []) F hg0 hr hb hx I2 .nil rz q2⟩) hpl) hdb)⟩
end

/-! ### calls -/
section
variable {X : Cx} {G : Wd} {E : XK}
theorem post_call {K : PySem.W.Frag} {w w1 : Wd} {Q : VK} {x : PV} {S : Store} (k : WOk K w) (k1 : WOk K w1) (s1 : WStep w w1) (h : PostV K w Q x S) : PostX K w1 Q x S := fun w' v e s' k' r => by
  have hO : ∀ a ∈ w1.O ++ w'.L, a ∈ w'.O := fun a h => (List.mem_append.mp h).elim (s'.omono a) (k'.sub a)
  have ext : ∀ a o, w'.hc a = some o → cut w'.H (w1.O ++ w'.L) a = some o := fun a o h => by
    obtain ⟨h1, h2⟩ := cut_some h
    rw [cut_out fun z => h1 (hO a z)]
    exact h2
  refine h { w' with O := w1.O ++ w'.L } v e (s1.tr (w1 := w1) ⟨s'.pre, s'.keep, fun a h => List.mem_append_left _ h, fun a h => ?_, s'.lset⟩ k k1) ⟨fun a h => List.mem_append_right _ h, k'.nd, k'.len, fun n o a h1 h2 => (k'.st n o a h1 h2).mono (List.prefix_refl _) ext, fun a h => k'.dom a (hO a h)⟩ r
  rcases List.mem_append.mp h with h | h
  · exact .inl h
  · rcases s'.lset a h with z | z
    · exact .inl (k1.sub a z)
    · exact .inr z
/-- a call of a def: dps the defaults that are not given -/
def mCall (n : Nat) (m : List PV → Store → Res PV) (dps : List PV) (fa : Rho → Store → Res (List PV)) : Rho → Store → Res PV := fun ρ S => (fa ρ S).bind fun xs S1 => if (xs ++ dps).length = n then m (xs ++ dps) S1 else .bad
theorem sim_call {K mg} {n : Nat} {m : List PV → Store → Res PV} {dps : List PV} {dvs : List V} {t : TA} {fa} (hd : ∀ L Hc, RVs K L Hc dps dvs) (ha : ASim K mg G E t fa) : ESim K mg G E (tCall (spM K mg n m) dvs E t) (mCall n m dps fa) := fun w ρ σ Q I q => by
  refine ha w ρ σ _ I (Good.imp (Good.bind1 q) (fun xs S1 h1 => ?_) fun _ _ _ h => h)
  intro w1 vs e1 s1 k1 r1
  subst e1
  obtain ⟨c, h1⟩ := good_if h1
  exact ⟨xs ++ dps, w1, rfl, k1, r1.append (hd _ _), c, Good.imp h1 (fun x S h => post_call I.ok k1 s1 h) fun _ _ _ h => h.step s1 I.ok k1⟩
theorem fe_call {k : Nat} {f : Addr} {fd : FuncData} {ps : List Str} {n : Nat} {m : List PV → Store → Res PV} {x : Str} {p pos e es t fa} (F : FnG X.prog X.w X.K X.mg X.base k f fd ps (spM X.K X.mg n m)) (hg0 : X.A.guards = some []) (hr : Room k X.A) (hm : X.mg x = some (.ref f)) (hk : PySem.W.keepIn X.K (.ref f) = true)
    (hb : Binds X.K fd ps []) (hx : Passes (L2.CX X.prog X.w) X E) (ha : FA X G E (e :: es) t fa) (hg : Gl X x := by rfl) (hdb : (x == ("__debug__" : Str)) = false := by decide) (he : starEach (e :: es) X.env = (false, eval e X.env) :: starEach es X.env := by rfl)
    (hpl : (backTo pos (starEach es X.env)).any (·.1) = false := by rfl) : FE X G E (.Call (.Name x p) (e :: es) [] pos) (tCall (spM X.K X.mg n m) [] E t) (mCall n m [] fa) :=
  ⟨peG_call F hg0 hr hg hm hk hb .nil hx ha.pe hdb he hpl, sim_call (fun _ _ => rfl) ha.sim⟩
/-- gP: how the parameters come of the positional values and the keywords' ones -/
def mCallK (n : Nat) (m : List PV → Store → Res PV) (gP : List PV → List PV → List PV) (fa fk : Rho → Store → Res (List PV)) : Rho → Store → Res PV := fun ρ S => (fa ρ S).bind fun xs S1 => (fk ρ S1).bind fun ys S2 => if (gP xs ys).length = n then m (gP xs ys) S2 else .bad
theorem sim_callK {K mg} {n : Nat} {m : List PV → Store → Res PV} {gP : List PV → List PV → List PV} {gV} {t tk : TA} {fa fk} (hg : ∀ L Hc xs ys vs us, RVs K L Hc xs vs → RVs K L Hc ys us → RVs K L Hc (gP xs ys) (gV vs us)) (ha : ASim K mg G E t fa) (hk : ASim K mg G E tk fk) : ESim K mg G E (tCallK (spM K mg n m) gV E t tk) (mCallK n m gP fa fk) := fun w ρ σ Q I q => by
  refine ha w ρ σ _ I (Good.imp (Good.bind1 q) (fun xs S1 h1 => ?_) fun _ _ _ h => h)
  intro w1 vs e1 s1 k1 r1
  subst e1
  have I1 := I.step s1 k1
  refine hk w1 ρ σ _ I1 (Good.imp (Good.bind1 h1) (fun ys S2 h2 => ?_) fun _ _ _ h => h.step s1 I.ok k1)
  intro w2 us e2 s2 k2 r2
  subst e2
  have s12 := s1.tr s2 I.ok k1
  obtain ⟨c, h2⟩ := good_if h2
  exact ⟨gP xs ys, w2, rfl, k2, hg _ _ _ _ _ _ (r1.mono s2.pre (s2.ext k1.sub)) r2, c, Good.imp h2 (fun x S h => post_call I.ok k2 s12 h) fun _ _ _ h => h.step s12 I.ok k2⟩
theorem fe_callK {k : Nat} {f : Addr} {fd : FuncData} {ps ks : List Str} {n : Nat} {m : List PV → Store → Res PV} {x : Str} {p pos e es t fa kws tk fk g gV} {gP : List PV → List PV → List PV} (F : FnG X.prog X.w X.K X.mg X.base k f fd ps (spM X.K X.mg n m)) (hg0 : X.A.guards = some []) (hr : Room k X.A) (hm : X.mg x = some (.ref f)) (hk : PySem.W.keepIn X.K (.ref f) = true)
    (hb : KBinds X.K fd ps ks g gV) (hgP : ∀ L Hc xs ys vs us, RVs X.K L Hc xs vs → RVs X.K L Hc ys us → RVs X.K L Hc (gP xs ys) (gV vs us)) (hx : Passes (L2.CX X.prog X.w) X E) (ha : FA X G E (e :: es) t fa) (hkw : FK X G E kws tk fk) (hg : Gl X x := by rfl) (hall : (backToKw pos (keywordEach kws X.env)).all (·.1.isSome) = true := by rfl) (hks : (backToKw pos (keywordEach kws X.env)).filterMap (·.1) = ks := by rfl)
    (hdb : (x == ("__debug__" : Str)) = false := by decide) (he : starEach (e :: es) X.env = (false, eval e X.env) :: starEach es X.env := by rfl)
    (hpl : ((backTo pos (starEach (e :: es) X.env)).any (·.1) || (backToKw pos (keywordEach kws X.env)).any (·.1.isNone)) = false := by rfl) :
    FE X G E (.Call (.Name x p) (e :: es) kws pos) (tCallK (spM X.K X.mg n m) gV E t tk) (mCallK n m gP fa fk) :=
  ⟨peG_callK F hg0 hr hg hm hk hb hx ha.pe hkw.pe hall hks hdb he hpl, sim_callK hgP ha.sim hkw.sim⟩
theorem fe_callK0 {k : Nat} {f : Addr} {fd : FuncData} {ps ks : List Str} {n : Nat} {m : List PV → Store → Res PV} {x : Str} {p pos kws tk fk g gV} {gP : List PV → List PV → List PV} (F : FnG X.prog X.w X.K X.mg X.base k f fd ps (spM X.K X.mg n m)) (hg0 : X.A.guards = some []) (hr : Room k X.A) (hm : X.mg x = some (.ref f)) (hk : PySem.W.keepIn X.K (.ref f) = true)
    (hb : KBinds X.K fd ps ks g gV) (hgP : ∀ L Hc xs ys vs us, RVs X.K L Hc xs vs → RVs X.K L Hc ys us → RVs X.K L Hc (gP xs ys) (gV vs us)) (hx : Passes (L2.CX X.prog X.w) X E) (hkw : FK X G E kws tk fk) (hg : Gl X x := by rfl) (hall : (backToKw pos (keywordEach kws X.env)).all (·.1.isSome) = true := by rfl) (hks : (backToKw pos (keywordEach kws X.env)).filterMap (·.1) = ks := by rfl)
    (hdb : (x == ("__debug__" : Str)) = false := by decide)
    (hpl : ((backTo pos (starEach [] X.env)).any (·.1) || (backToKw pos (keywordEach kws X.env)).any (·.1.isNone)) = false := by rfl) :
    FE X G E (.Call (.Name x p) [] kws pos) (tCallK (spM X.K X.mg n m) gV E tNil tk) (mCallK n m gP mNil fk) :=
  ⟨peG_callK0 F hg0 hr hg hm hk hb hx hkw.pe hall hks hdb hpl, sim_callK hgP (fun w ρ σ Q I h => h w [] rfl (WStep.refl I.ok.sub) I.ok rfl) hkw.sim⟩
end
end Mir
set_option maxHeartbeats 4000000
/-! Mir6: the law's end, repr, sum of a tuple. -/
namespace Mir
open PySem PySem.Spec PyProof.Rows L2

theorem cx_false {P : Program} {w : World} {H : Hp} {s s' : Shared} {e : Value} (h : L2.CX P w [] H s (fun _ _ _ => False) e s') : False := by
  obtain ⟨_, _, _, _, _, _, _, _, _, _, _, _, z⟩ := h
  exact z.elim
/-- the script's heap: the script alone, locked -/
def scrH (a : Addr) (o : Obj) (xs : List V) : Hp := fun b => if b = a then some (.frz o (.lst xs)) else none
theorem scrH_some {a : Addr} {o : Obj} {xs : List V} {b : Addr} {u : HO} (h : scrH a o xs b = some u) : b = a ∧ u = .frz o (.lst xs) := by
  unfold scrH at h
  split at h
  · cases h; exact ⟨‹_›, rfl⟩
  · cases h
/-- the law called over the heap behind the top -/
theorem law_run {P : Program} {w : World} {K : PySem.W.Frag} {mg mb : Str → Option Value} {k : Nat} {fa a : Addr} {fd : FuncData} {x : Str} {sp : Sp} {s1 : Shared} {vs : List Value} {ns : List Int}
    (KX : K.In s1.heap) (hns : s1.heap.Ns mainGlobals mg) (hb : s1.heap.Ns builtinsNs mb) (hbb : ∀ x : Str, x ≠ "__name__" → mb x = bootBuiltins x) (hlim : s1.heap.NoLimit) (hg : s1.gens = #[])
    (ha : s1.heap.get? a = some { cls := .type "list", data := .seq vs.toArray }) (hi : IntsAre vs ns) (hl : ns.length ≤ sizeLine) (hr : Room k callerA)
    (F : ∀ base : Heap, K.In base → base.Ns mainGlobals mg → FnG P w K mg base k fa fd [x] sp) (hbind : ∀ (s : Shared) (u : Value), BindsTo s fd ⟨[u], []⟩ [(x, u)])
    (hsp : ∀ H : Hp, Only H → SqL K H a (ns.map V.int) → sp [.ref a] H (fun v _ => v = .bl true) fun _ _ _ => False) :
    codeAny (model P w) callerA (.call (.ref fa) ⟨[.ref a], []⟩) (fun r s' => r = .ok (.ret (.bool true)) ∧ OldK s1.heap s'.heap ∧ s'.os = s1.os ∧ AllBare s'.gens) s1 := by
  -- over an abstract heap that holds the script alone, or nothing
  have key : ∀ H : Hp, (∀ b u, H b = some u → b = a ∧ K.lookup a = none ∧ u = .frz { cls := .type "list", data := .seq vs.toArray } (.lst (ns.map V.int))) → SqL K H a (ns.map V.int) →
      codeAny (model P w) callerA (.call (.ref fa) ⟨[.ref a], []⟩) (fun r s' => r = .ok (.ret (.bool true)) ∧ OldK s1.heap s'.heap ∧ s'.os = s1.os ∧ AllBare s'.gens) s1 := by
    intro H only hS
    have free : ∀ b, b ≠ a → H b = none := fun b n => by
      cases q : H b with
      | none => rfl
      | some u => exact absurd (only b u q).1 n
    have hok : HOk P w H s1.heap := fun b u q => by
      obtain ⟨rfl, _, rfl⟩ := only b u q
      exact ⟨ha, by rw [List.length_map]; exact hl, vs, _, vals_ints hi, ha⟩
    have nsok : ∀ {b : Addr} {m : Str → Option Value}, s1.heap.Ns b m → (hidT s1.heap H).Ns b m := by
      rintro b m ⟨o, es, ep, e, d, r⟩
      refine ⟨o, es, ep, hidT_get e (free b ?_), d, r⟩
      rintro rfl
      rw [ha] at e
      cases e
      have d' : Data.seq vs.toArray _ = Data.dict es ep := d
      cases d'
    have kb : K.In (hidT s1.heap H) := fun b o e => hidT_get (KX b o e) (by
      cases q : H b with
      | none => rfl
      | some u =>
        obtain ⟨rfl, z, _⟩ := only b u q
        rw [z] at e; cases e)
    have md : Mod K mg (hidT s1.heap H) := by
      obtain ⟨mc, h1, h2⟩ := hlim
      exact ⟨kb, nsok hns, ⟨mb, nsok hb, hbb⟩, mc, nsok h1, h2⟩
    have hOnly : Only H := fun b => by
      cases q : H b with
      | none => exact .inl rfl
      | some u => exact .inr ⟨_, _, by rw [(only b u q).2.2]⟩
    have e0 : Env0 P w K mg (hidT s1.heap H) callerA [] s1 H := ⟨rfl, md, fun b o e => of_hidT e, Nat.le_of_eq (hidT_size _ _), trivial, fun b hb => by simp [frs] at hb, hok, .of_eq hg⟩
    refine codeAny_mono ((F _ kb (nsok hns)).go callerA [] s1 H ⟨[.ref a], []⟩ [.ref a] [.ref a] _ _ rfl hr e0 (hbind s1 (.ref a)) (.cons rfl .nil) (hsp H hOnly hS)) fun r s' h => ?_
    match r, h with
    | .error e, h => exact (cx_false h).elim
    | .ok (.ret u), h =>
      obtain ⟨v, H', os, bare, un, hok', rv, q⟩ := h
      have q : v = .bl true := q
      subst q
      have rv : u = Value.bool true := rv
      subst rv
      refine ⟨rfl, OldK.of_keep fun b o e => ?_, os, bare⟩
      cases q : H b with
      | none => exact un.keep b o e q (by simp [frs]) (by simp)
      | some z =>
        obtain ⟨rfl, _, rfl⟩ := only b z q
        have g1 := (hok b _ q).1
        have g2 := (hok' b _ (un.frzs b _ _ q)).1
        rw [e] at g1
        cases g1
        exact g2
  cases hk : K.lookup a with
  | some o =>
    have e := KX a o hk
    rw [ha] at e
    cases e
    exact key (fun _ => none) (fun b u q => nomatch q) (.inr ⟨_, vs.toArray, _, hk, rfl, rfl, rfl, by rw [List.size_toArray, hi.length]; exact hl, by simpa using vals_ints hi⟩)
  | none => exact key (scrH a _ (ns.map V.int)) (fun b u q => ⟨(scrH_some q).1, hk, (scrH_some q).2⟩) (.inl (.inr ⟨_, if_pos rfl⟩))
/-- the law's promise: its mirror gives True of every script -/
theorem spM_law {K : PySem.W.Frag} {mg : Str → Option Value} {m : List PV → Store → Res PV} {H : Hp} {a : Addr} {ns : List Int} (hS : SqL K H a (ns.map V.int)) (hm : ∃ S, m [.cl (ns.map PV.int)] [] = .ok (.bl true) S) : spM K mg 1 m [.ref a] H (fun v _ => v = .bl true) fun _ _ _ => False := by
  obtain ⟨S, e⟩ := hm
  have rs : ∀ (L : List Addr) (Hc : Hp) (l : List Int), RVs K L Hc (l.map PV.int) (l.map V.int) := fun L Hc l => by
    induction l with
    | nil => rfl
    | cons i l ih => exact ⟨_, _, rfl, rfl, ih⟩
  refine ⟨[.cl (ns.map PV.int)], ⟨[], [], H, [], none⟩, rfl, ⟨fun _ h => (nomatch h), List.nodup_nil, rfl, fun n o a h => by simp at h, fun _ h => (nomatch h)⟩, ⟨_, [], rfl, ⟨a, ns.map V.int, rfl, ?_, rs _ _ ns⟩, rfl⟩, rfl, ?_⟩
  · have : (Wd.hc ⟨[], [], H, [], none⟩) = H := by
      funext b
      show cut H [] b = H b
      rw [cut_out (by simp)]
    rw [this]
    exact hS
  · show Good (m [.cl (ns.map PV.int)] []) _ _
    rw [e]
    exact fun w' v _ _ _ r => r
/-- the goal behind the head, from the law's mirror -/
theorem walk_mir {l : PySem.W.OpenLaw} {n k : Nat} {q : Program} {loose : List Str} {XP : (Str → Option Value) → Heap → Prop} {YP : World → Heap → Prop} {d : DefRec} {x : Str} {m : List PV → Store → Res PV}
    (hn : l.most = some n) (hn2 : n ≤ sizeLine) (hdf : d.params.defaults = []) (hr : Room k callerA)
    (F : ∀ (w : World) (mg : Str → Option Value) (fa : Addr) (h : Heap), YP w h → h.Ns mainGlobals mg → mg d.name = some (.ref fa) →
      ∃ (K : PySem.W.Frag) (fd : FuncData), K.In h ∧ (∀ (s : Shared) (u : Value), BindsTo s fd ⟨[u], []⟩ [(x, u)]) ∧ ∀ base : Heap, K.In base → base.Ns mainGlobals mg → FnG l.prog w K mg base k fa fd [x] (spM K mg 1 m))
    (hm : ∀ ns : List Int, ns.length ≤ n → ∃ S, m [.cl (ns.map PV.int)] [] = .ok (.bl true) S) :
    PySem.W.WalkO q loose XP YP l.row.toRowW d [] (fun f vs => PySem.call f vs) := by
  refine Att.attach_call hn hdf fun w s0 s1 mg mb fa o pm cd doc a vs ns G Y ho hd hcd hmg hobj hints hlen hg => ?_
  obtain ⟨K, fd, KX, hb, hF⟩ := F w mg fa _ Y G.T.g hmg
  exact law_run KX G.T.g G.T.b G.T.builtins G.T.nolimit hg hobj hints (Nat.le_trans hlen hn2) hr hF hb fun H _ hS => spM_law hS (hm ns hlen)
end Mir
set_option maxHeartbeats 4000000
/-! Mir7: repr, sum of a tuple. -/
namespace Mir
open PySem PySem.Spec PyProof.Rows L2

mutual
def toD : PV → Option PyData
  | .non => some .none
  | .bl b => some (.bool b)
  | .int i => some (.int i)
  | .str x => some (.str x)
  | .tup xs => (toDs xs).map .tuple
  | .lst xs => (toDs xs).map .list
  | .cl xs => (toDs xs).map .list
  | .obj _ => none
def toDs : List PV → Option (List PyData)
  | [] => some []
  | x :: xs => match toD x, toDs xs with
    | some d, some ds => some (d :: ds)
    | _, _ => none
end
mutual
theorem toD_noDict : ∀ {x : PV} {d : PyData}, toD x = some d → d.hasDict = false
  | .non, _, h => by simp only [toD] at h; cases h; rfl
  | .bl _, _, h => by simp only [toD] at h; cases h; rfl
  | .int _, _, h => by simp only [toD] at h; cases h; rfl
  | .str _, _, h => by simp only [toD] at h; cases h; rfl
  | .tup xs, _, h => by
    simp only [toD, Option.map_eq_some_iff] at h
    obtain ⟨ds, e, rfl⟩ := h
    simp only [PyData.hasDict]
    exact toDs_noDict e
  | .lst xs, _, h => by
    simp only [toD, Option.map_eq_some_iff] at h
    obtain ⟨ds, e, rfl⟩ := h
    simp only [PyData.hasDict]
    exact toDs_noDict e
  | .cl xs, _, h => by
    simp only [toD, Option.map_eq_some_iff] at h
    obtain ⟨ds, e, rfl⟩ := h
    simp only [PyData.hasDict]
    exact toDs_noDict e
  | .obj _, _, h => by simp only [toD] at h; cases h
theorem toDs_noDict : ∀ {xs : List PV} {ds : List PyData}, toDs xs = some ds → PyData.hasDictAll ds = false
  | [], _, h => by simp only [toDs] at h; cases h; rfl
  | x :: xs, _, h => by
    simp only [toDs] at h
    split at h
    · rename_i d ds e1 e2
      cases h
      simp only [PyData.hasDictAll, toD_noDict e1, toDs_noDict e2, Bool.or_false]
    · cases h
end
mutual
theorem toD_dp {K : PySem.W.Frag} {L : List Addr} {Hc H : Hp} (e : ∀ a o, Hc a = some o → H a = some o) : ∀ {x : PV} {d : PyData} {v : V}, toD x = some d → RV K L Hc x v → Dp K H v d
  | .non, _, v, h, r => by
    simp only [toD] at h; cases h
    have r : v = .non := r
    subst r; exact .non
  | .bl b, _, v, h, r => by
    simp only [toD] at h; cases h
    have r : v = .bl b := r
    subst r; exact .bl b
  | .int i, _, v, h, r => by
    simp only [toD] at h; cases h
    have r : v = .int i := r
    subst r; exact .int i
  | .str x, _, v, h, r => by
    simp only [toD] at h; cases h
    have r : v = .str x := r
    subst r; exact .str x
  | .tup xs, _, v, h, r => by
    simp only [toD, Option.map_eq_some_iff] at h
    obtain ⟨ds, e1, rfl⟩ := h
    obtain ⟨a, vs, rfl, r1, r2⟩ := r
    exact .tup (sqT_mono e r1) (toDs_dp e e1 r2)
  | .lst xs, _, v, h, r => by
    simp only [toD, Option.map_eq_some_iff] at h
    obtain ⟨ds, e1, rfl⟩ := h
    obtain ⟨a, vs, rfl, r1, r2⟩ := r
    exact .lst (.inl (.inl (e _ _ r1))) (toDs_dp e e1 r2)
  | .cl xs, _, v, h, r => by
    simp only [toD, Option.map_eq_some_iff] at h
    obtain ⟨ds, e1, rfl⟩ := h
    obtain ⟨a, vs, rfl, r1, r2⟩ := r
    exact .lst (sqL_mono e r1) (toDs_dp e e1 r2)
  | .obj _, _, _, h, _ => by simp only [toD] at h; cases h
theorem toDs_dp {K : PySem.W.Frag} {L : List Addr} {Hc H : Hp} (e : ∀ a o, Hc a = some o → H a = some o) : ∀ {xs : List PV} {ds : List PyData} {vs : List V}, toDs xs = some ds → RVs K L Hc xs vs → DpAll K H vs ds
  | [], _, vs, h, r => by
    simp only [toDs] at h; cases h
    have r : vs = [] := r
    subst r; exact .nil
  | x :: xs, _, vs, h, r => by
    simp only [toDs] at h
    split at h
    · rename_i d ds e1 e2
      cases h
      obtain ⟨v, us, rfl, r1, r2⟩ := r
      exact .cons (toD_dp e e1 r1) (toDs_dp e e2 r2)
    · cases h
end
def rRepr (K : PySem.W.Frag) : List V → Hp → VK → Prop := fun xs H Q => ∃ x d, xs = [x] ∧ Dp K H x d ∧ PyData.showable d = true ∧ d.hasDict = false ∧ d.shown.length ≤ sizeLine ∧ d.depth ≤ 60 ∧ Q (.str d.shown) H
theorem call_reprD {X : Cx} {k : Nat} (hr : Room k X.A) (hg : X.A.guards = some []) : CallR X (.builtin "repr") (rRepr X.K) := by
  intro pins s σ H xs us Q I r h
  obtain ⟨x, d, rfl, dp, hs, hd, hz, hdep, q⟩ := h
  obtain ⟨u, rfl, ru⟩ := vals1 r
  cases dp with
  | non =>
    cases ru
    exact PySem.P.repr_of_none ⟨.str _, H, I.tok _, ⟨_, rfl⟩, by simp only [PyData.shown] at q; exact q⟩
  | bl b =>
    cases ru
    exact PySem.P.repr_of_bool ⟨.str _, H, I.tok _, ⟨_, rfl⟩, by simp only [PyData.shown] at q; exact q⟩
  | int i =>
    obtain ⟨t, rfl⟩ := ru
    exact PySem.P.repr_of_int (by simpa [PyData.showable] using hs) ⟨.str _, H, I.tok _, ⟨_, rfl⟩, by simp only [PyData.shown] at q; exact q⟩
  | str z =>
    obtain ⟨t, rfl⟩ := ru
    exact PySem.P.repr_of_str ⟨.str _, H, I.tok _, ⟨_, rfl⟩, by simp only [PyData.shown] at q; exact q⟩ (hsz := by simpa [PyData.shown] using hz)
  | @lst a ys ds h1 h2 =>
    obtain ⟨as, rd⟩ := Dp.reads I (.list ds) (.ref a) u (.lst h1 h2) ru
    cases ru
    have hun := hr.un
    exact repr_of_reads' rd hs (PyData.noDict_hsm hd) hg (by omega) (fun _ _ e => e) (fun h' t tk kp => ⟨.str _, H, I.kept (t' := tk) kp, ⟨t, rfl⟩, q⟩) hz
  | @tup a ys ds h1 h2 =>
    obtain ⟨as, rd⟩ := Dp.reads I (.tuple ds) (.ref a) u (.tup h1 h2) ru
    cases ru
    have hun := hr.un
    exact repr_of_reads' rd hs (PyData.noDict_hsm hd) hg (by omega) (fun _ _ e => e) (fun h' t tk kp => ⟨.str _, H, I.kept (t' := tk) kp, ⟨t, rfl⟩, q⟩) hz
def reprOk (d : PyData) : Bool := PyData.showable d && decide (d.shown.length ≤ sizeM) && decide (d.depth ≤ 60)
def gRepr : List PV → Store → Res PV
  | [x], S => match toD x with
    | some d => if reprOk d = true then .ok (.str d.shown) S else .bad
    | none => .bad
  | _, _ => .bad
theorem ra_repr {K : PySem.W.Frag} {mg : Str → Option Value} {E : XK} : RASim K mg E (rRepr K) gRepr := fun w xs vs Q k r g => by
  match xs, g, r with
  | [x], g, r =>
    obtain ⟨v, rfl, r1⟩ := vs1 r
    have g : Good (match toD x with | some d => (if reprOk d = true then Res.ok (.str d.shown) w.S else .bad) | none => .bad) (PostV K w Q) (ExP K mg E w) := g
    cases e : toD x with
    | none => rw [e] at g; exact g.elim
    | some d =>
      rw [e] at g
      obtain ⟨c, g⟩ := good_if g
      unfold reprOk at c
      simp only [Bool.and_eq_true, decide_eq_true_eq] at c
      exact ⟨v, d, rfl, toD_dp (fun a o h => (cut_some h).2) e r1, c.1.1, toD_noDict e, sizeM_le c.1.2, c.2, post_self k g rfl rfl⟩

/-! sum of a list, of a tuple -/
section
variable {prog : Program} {w : World} {A : Around} {E : Value → Shared → Prop} {s : Shared}
theorem sum_tup {l : Addr} {its : List Value} {ns : List Int} {Q : Value → Shared → Prop} (hh : A.handled = none) (hl : s.heap.IsTuple l its.toArray) (hi : IntsAre its ns)
    (h : ∀ h' tk t', (∀ b o, s.heap.get? b = some o → h'.get? b = some o) → Q (.int ns.sum t') { s with heap := h', toks := tk }) : wpAny (model prog w) A (call (.builtin "sum") [.ref l]) Q E s := by
  obtain ⟨xs, e⟩ := hi.allInts.items
  have hn : numsOf (intItems xs).toList = ns := by rw [← e]; exact hi.numsOf
  rw [nums_intItems] at hn
  rw [e] at hl
  have hlt : l < s.heap.objs.size := let ⟨_, z, _⟩ := hl; Heap.lt_size z
  refine call_sum_walkG (PySem.W.iter_tupleW (A := A.in1) hh hl fun s2 e2 W st hfp hn1 hk => ⟨_, _, _, _, _, _, numAt xs, rfl, Walks.tuple (A := A.in1) hh _ l (Nat.ne_of_lt hlt) (intItems xs), st, hfp, fun _ _ => intItems_at, fun h' tk t' kp => ?_⟩)
  subst e2
  have := h h' tk t' fun b o z => kp b o (hn1 b o z) (hk b o z)
  rw [preSum_eq, List.take_of_length_le (by simp [intItems]), hn]
  exact this
end
def rSumT (K : PySem.W.Frag) : List V → Hp → VK → Prop := fun vs H Q => ∃ (a : Addr) (ns : List Int), vs = [V.ref a] ∧ SqT K H a (ns.map V.int) ∧ Q (.int ns.sum) H
theorem vals_are : ∀ {ns : List Int} {us : List Value}, Vals (ns.map V.int) us → IntsAre us ns
  | [], us, r => by
    cases r
    exact .nil
  | n :: ns, us, r => by
    cases r with
    | cons r1 r2 =>
      obtain ⟨t, rfl⟩ := r1
      exact .cons n t (vals_are r2)
theorem cr_sumT {X : Cx} (hc : X.calm = true) : CallR X (.builtin "sum") (rSumT X.K) := by
  intro pins s σ H vs us Q I r h
  obtain ⟨a, ns, rfl, hs, q⟩ := h
  obtain ⟨u, rfl, ru⟩ := vals1 r
  cases ru
  obtain ⟨its, rv, p, _⟩ := I.tuple hs
  exact sum_tup (I.ok.hd hc) (show s.heap.IsTuple a its.toArray from p) (vals_are rv) fun h' tk t' kp => ⟨.int _, H, I.kept (t' := tk) kp, ⟨t', rfl⟩, q⟩
theorem CallR.or {X : Cx} {f : Value} {r r' : List V → Hp → VK → Prop} (h : CallR X f r) (h' : CallR X f r') : CallR X f (fun xs H Q => r xs H Q ∨ r' xs H Q) := fun pins s σ H xs us Q I rv q => q.elim (h pins s σ H xs us Q I rv) (h' pins s σ H xs us Q I rv)
def gSum : List PV → Store → Res PV
  | [.lst xs], S => match xs.mapM toI with | some bs => .ok (.int bs.sum) S | none => .bad
  | [.tup xs], S => match xs.mapM toI with | some bs => .ok (.int bs.sum) S | none => .bad
  | _, _ => .bad
theorem ra_sumA {K : PySem.W.Frag} {mg : Str → Option Value} {E : XK} : RASim K mg E (fun xs H Q => rSum K xs H Q ∨ rSumT K xs H Q) gSum := fun w xs vs Q k r g => by
  match xs, g, r with
  | [.lst ys], g, r => exact .inl (ra_sum (mg := mg) (E := E) w [.lst ys] vs Q k r g)
  | [.tup ys], g, r =>
    obtain ⟨v, rfl, a, us, rfl, r1, r2⟩ := vs1 r
    have g : Good (match ys.mapM toI with | some bs => Res.ok (.int bs.sum) w.S | none => Res.bad) (PostV K w Q) (ExP K mg E w) := g
    cases e : ys.mapM toI with
    | none => rw [e] at g; exact g.elim
    | some bs =>
      rw [e] at g
      exact .inr ⟨a, bs, rfl, by rw [← toIs_rv e r2]; exact hc_sqT r1, post_self k g rfl rfl⟩
end Mir
set_option maxHeartbeats 4000000
/-! Mir8: reads of lists that are still being filled; shorter forms for printed derivations. -/
namespace Mir
open PySem PySem.Spec PyProof.Rows L2
section
variable {X : Cx} {G : Wd} {E : XK}
/-- x[k], x a list of ours -/
def mIxOwn (i : Nat) (fk : Rho → Store → Res PV) : Rho → Store → Res PV := fun ρ S => match ρ[i]? with
  | some (.own (.lst xs)) => (fk ρ S).bind fun k S1 => gIx (.lst xs) k S1
  | _ => .bad
theorem fe_ixOwn {i : Nat} {x : Str} {px b pos tb fb} (hb : FE X G E b tb fb) (hx : PE X (.Name x px) (tVar i)) (hp : PlainIx b := by exact fun _ _ => rfl) : FE X G E (.Subscript (.Name x px) b pos) (tOp (rIx X.K) (tVar i) tb) (mIxOwn i fb) := ⟨pe_ix ix_seq hx hb.pe hp, fun w ρ σ Q I q => by
  unfold mIxOwn at q
  split at q
  · rename_i xs hi
    obtain ⟨p, a, b, c, d, vs, r1, r2⟩ := I.own i _ hi
    refine ⟨.ref p, a, hb.sim w ρ σ _ I (Good.imp (Good.bind1 q) (fun k S1 h1 => ?_) fun _ _ _ h => h)⟩
    intro w1 u e1 s1 k1 rk
    subst e1
    obtain ⟨j, rfl⟩ : ∃ j, k = .int j := by cases k <;> first | exact h1.elim | exact ⟨_, rfl⟩
    have h1 : Good (match atI xs j with | some y => Res.ok y w1.S | none => Res.bad) (PostV X.K w Q) (ExP X.K X.mg E w) := h1
    cases e : atI xs j with
    | none => rw [e] at h1; exact h1.elim
    | some y =>
      rw [e] at h1
      obtain ⟨t, e1, e2⟩ := at_rv (r2.mono s1.pre (s1.ext I.ok.sub)) e
      exact .inl ⟨p, vs, j, t, rfl, rk, .inl (.inl (s1.keep p _ r1 c)), e1, h1 w1 t rfl s1 k1 e2⟩
  · exact q.elim⟩
/-- len(x), x a list of ours -/
def mLenOwn (i : Nat) : Rho → Store → Res PV := fun ρ S => match ρ[i]? with
  | some (.own (.lst xs)) => .ok (.int xs.length) S
  | _ => .bad
theorem fe_lenOwn {i : Nat} {x : Str} {p px pos} (hx : PE X (.Name x px) (tVar i)) (hm : X.mg "len" = none) (hg : Gl X "len" := by rfl)
    (he : starEach [.Name x px] X.env = (false, eval (.Name x px) X.env) :: starEach [] X.env := by rfl) : FE X G E (.Call (.Name "len" p) [.Name x px] [] pos) (tCB (fun xs H Q => ∃ x n, xs = [x] ∧ LenV X.K x H n ∧ Q (.int n) H) (tCons (tVar i) tNil)) (mLenOwn i) :=
  ⟨pe_callB call_len hg hm (by decide +kernel) (pa_cons hx pa_nil he) (by decide) (by decide) he rfl, fun w ρ σ Q I q => by
  unfold mLenOwn at q
  split at q
  · rename_i xs hi
    obtain ⟨p, a, b, c, d, vs, r1, r2⟩ := I.own i _ hi
    exact ⟨.ref p, a, _, _, rfl, .inl ⟨vs, .inl (.inl r1), r2.len.symm⟩, q w (.int xs.length) rfl (WStep.refl I.ok.sub) I.ok rfl⟩
  · exact q.elim⟩

/-! short forms -/
theorem fs_setV {i : Nat} {x : Str} {pos' pos e te f} (nd : X.N.Nodup) (hi : X.N[i]? = some x) (hx : Loc X.env.scope x) (he : FE X G E e te f) (hs : swapsWith e (some (.Name x pos')) pos.line X.env = pure false := by rfl) (hf : X.fn x = true ∨ X.env.scope.names.lookup x = some .local := by first | exact .inl rfl | exact .inr rfl) :
    FS X G E (.Assign [.Name x pos'] e pos) (tAsg te (gName i)) (mSet i f) := fs_set he (ps_set nd hi hx he.pe hs hf)
theorem fs_setO {i : Nat} {x : Str} {pos' pos e te f} (nd : X.N.Nodup) (hi : X.N[i]? = some x) (hx : Loc X.env.scope x) (he : FN X G E e te f) (hs : swapsWith e (some (.Name x pos')) pos.line X.env = pure false := by rfl) (hf : X.fn x = true ∨ X.env.scope.names.lookup x = some .local := by first | exact .inl rfl | exact .inr rfl) :
    FS X G E (.Assign [.Name x pos'] e pos) (tAsg te (gName i)) (mSetOwn i f) := fs_own he (ps_set nd hi hx he.pe hs hf)
theorem fs_setS {i : Nat} {x : Str} {pos' pos e te f} (nd : X.N.Nodup) (hi : X.N[i]? = some x) (hx : Loc X.env.scope x) (he : FN X G E e te f) (hs : swapsWith e (some (.Name x pos')) pos.line X.env = pure false := by rfl) (hf : X.fn x = true ∨ X.env.scope.names.lookup x = some .local := by first | exact .inl rfl | exact .inr rfl) :
    FS X G E (.Assign [.Name x pos'] e pos) (tAsg te (gName i)) (mShare i f) := fs_share he (ps_set nd hi hx he.pe hs hf)
theorem fs_app {i : Nat} {x : Str} {px pa pc pos e te f} (hx : PE X (.Name x px) (tVar i)) (he : FE X G E e te f)
    (hbase : attributeBase (.Name x px) "append" X.env (eval (.Name x px) X.env) = eval (.Name x px) X.env := by rfl)
    (hfew : ((backTo pc (starEach [e] X.env)).all (fun x => !x.1) && (backToKw pc (keywordEach [] X.env)).all (fun x => x.1.isSome) && decide ([e].length + ([] : List Keyword).length + (if ([] : List Keyword).isEmpty then 0 else 1) < 30)) = true := by rfl)
    (hline : (pa.endLine == pc.line) = true := by rfl) (hs : starEach [e] X.env = (false, eval e X.env) :: starEach [] X.env := by rfl) (hsw : swapsWith (.Call (.Attribute (.Name x px) "append" pa) [e] [] pc) none pos.line X.env = pure false := by rfl) :
    FS X G E (.Expr (.Call (.Attribute (.Name x px) "append" pa) [e] [] pc) pos) (tDrop (tBM X.K "list" rAppend (tVar i) (tCons te tNil))) (mAppend i f) :=
  fs_append he hx (ps_expr (pe_bm PySem.F.plainAttrs_list PySem.F.slot_list_append PySem.F.type_list_append mt_append hx (pa_cons he.pe pa_nil hs) hbase hfew hline hs (by rfl)) hsw)
/-- a store o[k] = u, spelled -/
abbrev SubAsg (X : Cx) (o k : Expr) (p : Pos) : Prop := ∀ u, assign (.Subscript o k p) X.env u = (do
  let a ← holding [u] (eval o X.env)
  let b ← holding [u, a] (eval k X.env)
  standAt p
  holding [u, a, b] (setItem a b u)
  release [u, a, b] [])
theorem fs_put {i : Nat} {x : Str} {px pt pos k e tk te fk f} (hx : PE X (.Name x px) (tVar i)) (hk : FE X G E k tk fk) (he : FE X G E e te f) (ha : SubAsg X (.Name x px) k pt := by intro _; rfl) (hs : swapsWithSole [.Subscript (.Name x px) k pt] e pos.line X.env = pure false := by rfl) (hw : swappedStores [.Subscript (.Name x px) k pt] e X.env = pure none := by rfl)
    (h1 : (assignEach [.Subscript (.Name x px) k pt] X.env).map (·.2) = [assign (.Subscript (.Name x px) k pt) X.env] := by rfl) :
    FS X G E (.Assign [.Subscript (.Name x px) k pt] e pos) (tAsg te (L2.gSub (tVar i) tk rSetL)) (mSetIx i fk f) := fs_setIx he hk (ps_asg he.pe (pg_sub hx hk.pe set_list ha) hs hw h1)
theorem passes_def {P : Program} {w : World} {K : PySem.W.Frag} {mg : Str → Option Value} {base : Heap} {N : List Str} {qual : Str} {sc : Scope} {f : Addr} {cd : Value} {A : Around} {outer : List Env} {s : Shared} {H : Hp} {E : XK} :
    Passes (L2.CX P w) (cxOf (L2.CX P w) P w K mg base N qual sc f cd A outer s H E) E :=
  passes_call (W := fun c d _ H => E c d H) (takes_of rfl rfl rfl rfl) fun _ _ _ _ h => h
theorem own_def {P : Program} {w : World} {K : PySem.W.Frag} {mg : Str → Option Value} {base : Heap} {N : List Str} {qual : Str} {sc : Scope} {f : Addr} {cd : Value} {A : Around} {outer : List Env} {s : Shared} {H : Hp} {E : XK} :
    PassesOwn (model (cxOf (L2.CX P w) P w K mg base N qual sc f cd A outer s H E).prog (cxOf (L2.CX P w) P w K mg base N qual sc f cd A outer s H E).w) (cxOf (L2.CX P w) P w K mg base N qual sc f cd A outer s H E).A (cxOf (L2.CX P w) P w K mg base N qual sc f cd A outer s H E).env (cxOf (L2.CX P w) P w K mg base N qual sc f cd A outer s H E).xe :=
  passes_of rfl
theorem fs_forV {tg iter body pos wi g tb fi fg fb} (hp : PassesOwn (model X.prog X.w) X.A X.env X.xe) (hc : X.calm = true) (hi : FIt X G E tg iter wi fi) (hg : FG X G E tg g fg) (hb : FSs X G E body tb fb) (hs : ∀ x, foldedSetIterable iter X.env x = pure x := by intro _; rfl) : FS X G E (.For tg iter body [] pos) (tFor wi g tb) (mFor fi fg fb) :=
  fs_for hi hg hb (ps_for hp hc hi.pe hg.pe hb.pe hs)

/-! + and * of everything -/
def gAddA : PV → PV → Store → Res PV
  | .lst xs, .lst ys, S => if xs.length + ys.length ≤ sizeM then .ok (.lst (xs ++ ys)) S else .bad
  | x, y, S => gAdd x y S
def gMulA : PV → PV → Store → Res PV
  | .lst xs, .int k, S => if (decide (xs.length * k.toNat ≤ sizeM) && decide (-1000000 ≤ k) && decide (k ≤ 1000000)) = true then .ok (.lst (List.replicate k.toNat xs).flatten) S else .bad
  | x, y, S => gMul x y S
abbrev rAddA (K : PySem.W.Frag) : R2 := fun x y H Q => rCat x y H Q ∨ (rI0 (fun i j => .int (i + j)) x y H Q ∨ ((∃ i j, x = V.str i ∧ y = .str j ∧ i.length + j.length ≤ sizeLine ∧ Q (.str (i ++ j)) H) ∨ rCatA K x y H Q))
theorem op_addA : OpR X (binaryOp .Add) (rAddA X.K) := op_cat.or (op_add.or (op_add_str.or op_catA))
theorem post_put {K w Q} {xs : List PV} {vs : List V} (k : WOk K w) (r : RVs K w.L w.hc xs vs) (h : PostV K w Q (.lst xs) w.S) : ∀ p, w.H p = none → Q (.ref p) (upd w.H p (.lst vs)) := fun p hp =>
  h (w.put p (.lst vs)) (.ref p) rfl (put_step k hp) (put_ok k hp) ⟨p, vs, rfl, put_at k hp, r.mono (List.prefix_refl _) (put_ext hp)⟩
theorem r2_addA {K mg E} : R2Sim K mg E (rAddA K) gAddA := fun w x y v u Q k rx ry g => by
  by_cases hl : ∃ xs ys, x = .lst xs ∧ y = .lst ys
  · obtain ⟨xs, ys, rfl, rfl⟩ := hl
    obtain ⟨c, g⟩ := good_if g
    obtain ⟨a, vs, rfl, r1, r2⟩ := rx
    obtain ⟨b, us, rfl, r3, r4⟩ := ry
    exact .inl ⟨a, b, vs, us, rfl, rfl, hc_lst r1, hc_lst r3, by rw [r2.len, r4.len]; exact sizeM_le c, post_put k (r2.append r4) g⟩
  · refine .inr (r2_add (mg := mg) (E := E) w x y v u Q k rx ry ?_)
    have e : gAddA x y w.S = gAdd x y w.S := by
      cases x <;> cases y <;> first | rfl | exact absurd ⟨_, _, rfl, rfl⟩ hl
    rw [← e]
    exact g
abbrev rMulA : R2 := fun x y H Q => rRep x y H Q ∨ rI CMul (fun i j => .int (i * j)) x y H Q
theorem op_mulA : OpR X (binaryOp .Mult) rMulA := op_rep.or op_mul
theorem r2_mulA {K mg E} : R2Sim K mg E rMulA gMulA := fun w x y v u Q k rx ry g => by
  by_cases hl : ∃ xs i, x = .lst xs ∧ y = .int i
  · obtain ⟨xs, i, rfl, rfl⟩ := hl
    obtain ⟨c, g⟩ := good_if g
    simp only [Bool.and_eq_true, decide_eq_true_eq] at c
    obtain ⟨a, vs, rfl, r1, r2⟩ := rx
    exact .inl ⟨a, _, vs, rfl, ry, hc_lst r1, by omega, by omega, by rw [r2.len]; exact sizeM_le c.1.1, post_put k (r2.flat _) g⟩
  · refine .inr (r2_mul (mg := mg) (E := E) w x y v u Q k rx ry ?_)
    have e : gMulA x y w.S = gMul x y w.S := by
      cases x <;> cases y <;> first | rfl | exact absurd ⟨_, _, rfl, rfl⟩ hl
    rw [← e]
    exact g
theorem sl_any : SlR X (fun x lo hi H Q => rSlA X.K x lo hi H Q ∨ (rSlS x lo hi H Q ∨ rSlL X.K x lo hi H Q)) := sl_tupA.or (sl_str.or sl_list)
theorem cr_sumA (hc : X.calm = true) : CallR X (.builtin "sum") (fun xs H Q => rSum X.K xs H Q ∨ rSumT X.K xs H Q) := Mir.CallR.or (cr_sum hc) (cr_sumT hc)
/-- a written tuple of ints -/
theorem rv_writ {K : PySem.W.Frag} {a : Addr} {o : Obj} {its : Array Value} {n : Nat} (l : K.lookup a = some o) (c : o.cls = .type "tuple") (d : o.data = .seq its n) (hz : its.size ≤ sizeLine) (ns : List Int) (r : Vals (ns.map V.int) its.toList) : ∀ L Hc, RV K L Hc (.tup (ns.map PV.int)) (.ref a) := fun L Hc => by
  refine ⟨a, ns.map V.int, rfl, .inr ⟨o, its, n, l, c, d, hz, r⟩, ?_⟩
  clear r
  induction ns with
  | nil => rfl
  | cons i l ih => exact ⟨_, _, rfl, rfl, ih⟩
end
end Mir
set_option maxHeartbeats 4000000
/-! Mir8b: the rules with the written part named (so that what they read does not hang on the block they stand in). -/
namespace Mir
open PySem PySem.Spec PyProof.Rows L2
section
variable {X : Cx} {G : Wd} {E : XK} (K : PySem.W.Frag)
theorem kAdd (h : X.K = K := by rfl) : OpR X (binaryOp .Add) (rAddA K) := h ▸ op_addA
theorem kMul : OpR X (binaryOp .Mult) rMulA := op_mulA
theorem kIx (h : X.K = K := by rfl) : IxR X (rIx K) := h ▸ ix_seq
theorem kIn (h : X.K = K := by rfl) : OpR X (compareOp .In) (rIn K false) := h ▸ op_in_seq
theorem kNotIn (h : X.K = K := by rfl) : OpR X (compareOp .NotIn) (rIn K true) := h ▸ op_notIn_seq
abbrev rSlAny : V → Option Int → Option Int → Hp → VK → Prop := fun x lo hi H Q => rSlA K x lo hi H Q ∨ (rSlS x lo hi H Q ∨ rSlL K x lo hi H Q)
theorem kSl (h : X.K = K := by rfl) : SlR X (rSlAny K) := h ▸ sl_any
abbrev rLenA : List V → Hp → VK → Prop := fun xs H Q => ∃ x n, xs = [x] ∧ LenV K x H n ∧ Q (.int n) H
theorem kLen (h : X.K = K := by rfl) : CallR X (.builtin "len") (rLenA K) := h ▸ call_len
abbrev rTupleA : List V → Hp → VK → Prop := fun xs H Q => ∃ p ys, xs = [V.ref p] ∧ ((SqL K H p ys ∧ ∀ l, H l = none → Q (.ref l) (upd H l (.tup ys))) ∨ (SqT K H p ys ∧ Q (.ref p) H))
theorem kTuple (h : X.K = K := by rfl) : CallR X (.type "tuple") (rTupleA K) := h ▸ call_tuple_of
abbrev rListA : List V → Hp → VK → Prop := fun xs H Q => ∃ p ys, xs = [V.ref p] ∧ (SqL K H p ys ∨ SqT K H p ys) ∧ ∀ l, H l = none → Q (.ref l) (upd H l (.lst ys))
theorem kList (h : X.K = K := by rfl) : CallR X (.type "list") (rListA K) := h ▸ call_list_of
theorem kAll (hc : X.calm = true := by rfl) (h : X.K = K := by rfl) : CallR X (.builtin "all") (rAll K) := h ▸ cr_all hc
theorem kAny (hc : X.calm = true := by rfl) (h : X.K = K := by rfl) : CallR X (.builtin "any") (rAny K) := h ▸ cr_any hc
abbrev rSumA : List V → Hp → VK → Prop := fun xs H Q => rSum K xs H Q ∨ rSumT K xs H Q
theorem kSum (hc : X.calm = true := by rfl) (h : X.K = K := by rfl) : CallR X (.builtin "sum") (rSumA K) := h ▸ cr_sumA hc
theorem kRepr {k : Nat} (hr : Room k X.A) (hg : X.A.guards = some []) (h : X.K = K := by rfl) : CallR X (.builtin "repr") (rRepr K) := h ▸ call_reprD hr hg
abbrev iSeq (te : TE) : TI := fun σ H R => iList K te σ H R ∨ iTup K te σ H R
theorem it_seq {tg e te f} (h : FE X G E e te f) (hK : X.K = K := by rfl) : FIt X G E tg e (iSeq K te) (mSeqOf f) := hK ▸ fit_seq h
theorem ke_isi {T : String} {Tn : Str} {p pT pos e te f} (hm : X.mg "isinstance" = none) (hT : X.mg Tn = none) (he : FE X G E e te f) (hK : X.K = K := by rfl) (hg : Gl X "isinstance" := by rfl) (hgT : Gl X Tn := by rfl) (hb : bootBuiltins Tn = some (.type T) := by decide +kernel) (hn : Tn ≠ "__name__" := by decide) (hdb : (Tn == ("__debug__" : Str)) = false := by decide)
    (hs : starEach [e, .Name Tn pT] X.env = (false, eval e X.env) :: starEach [.Name Tn pT] X.env := by rfl) (hpl : (backTo pos (starEach [.Name Tn pT] X.env)).any (·.1) = false := by rfl) (hs2 : starEach [.Name Tn pT] X.env = (false, eval (.Name Tn pT) X.env) :: starEach [] X.env := by rfl) :
    FE X G E (.Call (.Name "isinstance" p) [e, .Name Tn pT] [] pos) (tCB (rIsi K) (tCons te (tCons (tC (.ty T)) tNil))) (mIsi T f) := hK ▸ fe_isi hm hT he hg hgT hb hn hdb hs hpl hs2
theorem ke_ixOwn {i : Nat} {x : Str} {px b pos tb fb} (hb : FE X G E b tb fb) (hx : PE X (.Name x px) (tVar i)) (hK : X.K = K := by rfl) (hp : PlainIx b := by exact fun _ _ => rfl) : FE X G E (.Subscript (.Name x px) b pos) (tOp (rIx K) (tVar i) tb) (mIxOwn i fb) := hK ▸ fe_ixOwn hb hx hp
theorem ke_lenOwn {i : Nat} {x : Str} {p px pos} (hx : PE X (.Name x px) (tVar i)) (hm : X.mg "len" = none) (hK : X.K = K := by rfl) (hg : Gl X "len" := by rfl)
    (he : starEach [.Name x px] X.env = (false, eval (.Name x px) X.env) :: starEach [] X.env := by rfl) : FE X G E (.Call (.Name "len" p) [.Name x px] [] pos) (tCB (rLenA K) (tCons (tVar i) tNil)) (mLenOwn i) := hK ▸ fe_lenOwn hx hm hg he
end
/-- positional values and keywords' values, in a row -/
def kbG {α : Type} (p q : Nat) (us ws : List α) : List α := if us.length = p ∧ ws.length = q then us ++ ws else []
theorem kbG_vals {p q : Nat} {vs zs : List V} {us ws : List Value} (a : Vals vs us) (b : Vals zs ws) : Vals (kbG p q vs zs) (kbG p q us ws) := by
  unfold kbG
  rw [a.length, b.length]
  split
  · exact a.append b
  · exact .nil
theorem kbG_rv {p q : Nat} (K : PySem.W.Frag) (L : List Addr) (Hc : Hp) (xs ys : List PV) (vs us : List V) (a : RVs K L Hc xs vs) (b : RVs K L Hc ys us) : RVs K L Hc (kbG p q xs ys) (kbG p q vs us) := by
  unfold kbG
  rw [a.len, b.len]
  split
  · exact a.append b
  · exact RVs.nil
/-- the context stands in this program -/
structure CtxIs (X : Cx) (P : Program) (w : World) (K : PySem.W.Frag) (mg : Str → Option Value) (base : Heap) : Prop where
  p : X.prog = P
  w : X.w = w
  k : X.K = K
  m : X.mg = mg
  b : X.base = base
section
variable {X : Cx} {G : Wd} {E : XK} {P : Program} {w : World} {K : PySem.W.Frag} {mg : Str → Option Value} {base : Heap}
theorem ke_call {k : Nat} {f : Addr} {fd : FuncData} {ps : List Str} {n : Nat} {m : List PV → Store → Res PV} {x : Str} {p pos e es t fa} (F : FnG P w K mg base k f fd ps (spM K mg n m)) (hg0 : X.A.guards = some []) (hr : Room k X.A) (hm : mg x = some (.ref f)) (hk : PySem.W.keepIn K (.ref f) = true)
    (hb : Binds K fd ps []) (hx : Passes (L2.CX P w) X E) (ha : FA X G E (e :: es) t fa) (c : CtxIs X P w K mg base := by exact ⟨rfl, rfl, rfl, rfl, rfl⟩) (hg : Gl X x := by rfl) (hdb : (x == ("__debug__" : Str)) = false := by decide) (he : starEach (e :: es) X.env = (false, eval e X.env) :: starEach es X.env := by rfl)
    (hpl : (backTo pos (starEach es X.env)).any (·.1) = false := by rfl) : FE X G E (.Call (.Name x p) (e :: es) [] pos) (tCall (spM K mg n m) [] E t) (mCall n m [] fa) := by
  obtain ⟨rfl, rfl, rfl, rfl, rfl⟩ := c
  exact fe_call F hg0 hr hm hk hb hx ha hg hdb he hpl
theorem ke_callK {k : Nat} {f : Addr} {fd : FuncData} {ps ks : List Str} {n : Nat} {m : List PV → Store → Res PV} {x : Str} {p pos e es t fa kws tk fk g gV} {gP : List PV → List PV → List PV} (F : FnG P w K mg base k f fd ps (spM K mg n m)) (hg0 : X.A.guards = some []) (hr : Room k X.A) (hm : mg x = some (.ref f)) (hk : PySem.W.keepIn K (.ref f) = true)
    (hb : KBinds K fd ps ks g gV) (hgP : ∀ L Hc xs ys vs us, RVs K L Hc xs vs → RVs K L Hc ys us → RVs K L Hc (gP xs ys) (gV vs us)) (hx : Passes (L2.CX P w) X E) (ha : FA X G E (e :: es) t fa) (hkw : FK X G E kws tk fk) (c : CtxIs X P w K mg base := by exact ⟨rfl, rfl, rfl, rfl, rfl⟩) (hg : Gl X x := by rfl) (hall : (backToKw pos (keywordEach kws X.env)).all (·.1.isSome) = true := by rfl) (hks : (backToKw pos (keywordEach kws X.env)).filterMap (·.1) = ks := by rfl)
    (hdb : (x == ("__debug__" : Str)) = false := by decide) (he : starEach (e :: es) X.env = (false, eval e X.env) :: starEach es X.env := by rfl)
    (hpl : ((backTo pos (starEach (e :: es) X.env)).any (·.1) || (backToKw pos (keywordEach kws X.env)).any (·.1.isNone)) = false := by rfl) :
    FE X G E (.Call (.Name x p) (e :: es) kws pos) (tCallK (spM K mg n m) gV E t tk) (mCallK n m gP fa fk) := by
  obtain ⟨rfl, rfl, rfl, rfl, rfl⟩ := c
  exact fe_callK F hg0 hr hm hk hb hgP hx ha hkw hg hall hks hdb he hpl
theorem ke_callK0 {k : Nat} {f : Addr} {fd : FuncData} {ps ks : List Str} {n : Nat} {m : List PV → Store → Res PV} {x : Str} {p pos kws tk fk g gV} {gP : List PV → List PV → List PV} (F : FnG P w K mg base k f fd ps (spM K mg n m)) (hg0 : X.A.guards = some []) (hr : Room k X.A) (hm : mg x = some (.ref f)) (hk : PySem.W.keepIn K (.ref f) = true)
    (hb : KBinds K fd ps ks g gV) (hgP : ∀ L Hc xs ys vs us, RVs K L Hc xs vs → RVs K L Hc ys us → RVs K L Hc (gP xs ys) (gV vs us)) (hx : Passes (L2.CX P w) X E) (hkw : FK X G E kws tk fk) (c : CtxIs X P w K mg base := by exact ⟨rfl, rfl, rfl, rfl, rfl⟩) (hg : Gl X x := by rfl) (hall : (backToKw pos (keywordEach kws X.env)).all (·.1.isSome) = true := by rfl) (hks : (backToKw pos (keywordEach kws X.env)).filterMap (·.1) = ks := by rfl)
    (hdb : (x == ("__debug__" : Str)) = false := by decide)
    (hpl : ((backTo pos (starEach [] X.env)).any (·.1) || (backToKw pos (keywordEach kws X.env)).any (·.1.isNone)) = false := by rfl) :
    FE X G E (.Call (.Name x p) [] kws pos) (tCallK (spM K mg n m) gV E tNil tk) (mCallK n m gP mNil fk) := by
  obtain ⟨rfl, rfl, rfl, rfl, rfl⟩ := c
  exact fe_callK0 F hg0 hr hm hk hb hgP hx hkw hg hall hks hdb hpl
end
end Mir
set_option maxHeartbeats 4000000
/-! Mir9: heads: what the top leaves, told by names. -/
namespace Mir
open PySem PySem.Spec PyProof.Rows L2

theorem kb_of {K : PySem.W.Frag} {x qual : Str} {st : Stmt} {f : Addr} {fd : FuncData} {ps ks : List Str} {p q : Nat} (F : Fun K x qual st f fd) (hp : 0 < ps.length)
    (h : ∀ (kV doc pm : Value) (an : Option Addr) (cdv ct : Value) (us ws : List Value), us.length = p → ws.length = q → bindArgs (PySem.W.fnOf x qual (defArgs st) (defBody st) (defScope st) .none kV doc pm an cdv ct) ⟨us, ks.zip ws⟩ = pure (ps.zip (us ++ ws))) :
    KBinds K fd ps ks (kbG p q) (kbG p q) := by
  obtain ⟨oc, od, kV, doc, pm, an, cdv, ct, osl, rfl, lk, hcd⟩ := F.ex
  refine ⟨fun s us ws _ hl => ?_, fun a b => kbG_vals a b⟩
  unfold kbG at hl ⊢
  split at hl
  · rename_i c
    rw [if_pos c]
    exact .of_eq (h kV doc pm an cdv ct us ws c.1 c.2)
  · rw [← hl] at hp
    exact absurd hp (by simp)
theorem bind1 {K : PySem.W.Frag} {x qual p : Str} {st : Stmt} {f : Addr} {fd : FuncData} (F : Fun K x qual st f fd)
    (h : ∀ (kV doc pm : Value) (an : Option Addr) (cdv ct u : Value), bindArgs (PySem.W.fnOf x qual (defArgs st) (defBody st) (defScope st) .none kV doc pm an cdv ct) ⟨[u], []⟩ = pure [(p, u)]) (s : Shared) (u : Value) : BindsTo s fd ⟨[u], []⟩ [(p, u)] := by
  obtain ⟨oc, od, kV, doc, pm, an, cdv, ct, osl, rfl, lk, hcd⟩ := F.ex
  exact .of_eq (h kV doc pm an cdv ct u)
/-- a def without defaults -/
theorem fun_of {K : PySem.W.Frag} {x qual : Str} {st : Stmt} {f : Addr} {fd : FuncData} {kws : List (Str × V)} (F : FunD K x qual (defArgs st) (defBody st) (defScope st) [] kws f fd) : Fun K x qual st f fd := by
  obtain ⟨oc, od, dV, kV, doc, pm, an, cdv, ct, osl, e, l, c, d, _⟩ := F.ex
  rcases d with ⟨_, rfl⟩ | ⟨n, _⟩
  · exact ⟨⟨oc, od, kV, doc, pm, an, cdv, ct, osl, e, l, c⟩, F.kp⟩
  · exact absurd rfl n
theorem rv_ints {K : PySem.W.Frag} {L : List Addr} {Hc : Hp} : ∀ ns : List Int, RVs K L Hc (ns.map PV.int) (ns.map V.int)
  | [] => rfl
  | i :: l => ⟨_, _, rfl, rfl, rv_ints l⟩
theorem rv_tupB {K : PySem.W.Frag} {x : Str} {ns : List Int} (h : He.tupB K x (ns.map He.Dv.int) = true) (L : List Addr) (Hc : Hp) : RV K L Hc (.tup (ns.map PV.int)) (.ref (He.ga K x)) := by
  have e : (ns.map He.Dv.int).map (He.Dv.v K) = ns.map V.int := by
    rw [List.map_map]; rfl
  have q := He.tupB_ok h Hc
  rw [e] at q
  exact ⟨_, _, rfl, q, rv_ints ns⟩
theorem exB {l : List Bool} (h : l.all id = true) (i : Nat) {b : Bool} (hi : l[i]? = some b) : b = true := List.all_eq_true.mp h b (List.mem_of_getElem? hi)
/-! the head's hook: facts, defs, one Bool more -/
def obsM (n : Nat) (fa : List He.Fa) (fn : List He.DefD) (ex : PySem.W.Frag → Bool) (g : Addr → Option Obj) : He.AlD × Bool := (He.obsD fa fn (He.frG g (He.asD g n)), ex (He.frG g (He.asD g n)))
def hookM (n : Nat) (fa : List He.Fa) (fn : List He.DefD) (ex : PySem.W.Frag → Bool) : PySem.W.Hook where
  α := He.AlD × Bool
  obs := fun s => obsM n fa fn ex s.heap.get?
  val := fun _ => (He.valD fn, true)
  says := fun _ h => ∃ K : PySem.W.Frag, K.In h ∧ He.SaysD fa fn K ∧ ex K = true
  of := fun _ _ e => ⟨_, He.frG_in, congrArg Prod.fst e, congrArg Prod.snd e⟩
  keeps := fun _ _ _ ⟨K, hK, c⟩ k => ⟨K, PySem.W.Frag.In.keeps hK k, c⟩
def obM (n : Nat) (fa : List He.Fa) (fn : List He.DefD) (ex : PySem.W.Frag → Bool) (s : PySem.W.SharedT) : He.AlD × Bool := obsM n fa fn ex (HandSHeadRun.getT s)
theorem obM_eq {n : Nat} {fa : List He.Fa} {fn : List He.DefD} {ex : PySem.W.Frag → Bool} (s : PySem.W.SharedT) : obM n fa fn ex s = (hookM n fa fn ex).obs s.abs := by
  have e : HandSHeadRun.getT s = s.abs.heap.get? := funext fun a => HandSHeadRun.getT_eq s a
  unfold obM
  rw [e]
  rfl
end Mir
set_option maxHeartbeats 4000000
/-! MirX: exceptions: own classes with fields, raise, try, fields and isinstance in the suite. -/
namespace Mir
open PySem PySem.Spec PyProof.Rows L2

/-- what is known of the own exception class named c -/
structure XCls (K : PySem.W.Frag) (mg : Str → Option Value) (c : Str) (C fI : Addr) (flds : List Str) : Prop where
  gC : mg c = some (.ref C)
  T : OexC K C
  X : XfC K C
  iC : PySem.W.findIn K (.ref C) "__init__" = some (some (.ref fI))
  tI : PySem.W.typeIn K (.ref fI) = some (.type "function")
  no : ∀ f ∈ flds, PySem.W.findIn K (.ref C) f = some none
  cl : (PySem.W.clsIn K C).isSome = true
  ha : PySem.W.findIn K (.ref C) "__class__" = some (some (.builtin "object.__class__"))
  hn : PySem.W.specialIn K (.builtin "object.__class__") "__get__" = some (some (.builtin "getset_descriptor.__get__"))
  ht : PySem.W.takesIn K (.builtin "object.__class__") = some true
  hm : PySem.W.mroIn K C (.type "object") = some true
def oexB (K : PySem.W.Frag) (C : Addr) : Bool := match K.lookup C with
  | some ⟨.type "type", _, .cls cd, sl⟩ => (match cd.mro, sl.toList with
    | .ref C' :: bm, [_, _, _, _, some (.builtin n), _] => decide (C' = C) && (decide (n = "ValueError.__new__") && (!cd.hasDel && (cd.hasDict && HandSPX.refsVE bm)))
    | _, _ => false)
  | _ => false
theorem oexB_ok {K : PySem.W.Frag} {C : Addr} (q : oexB K C = true) : ∃ nm q N bs bm sn sub ab col dd k0 k1 k2 k3 k5, List.lookup C K = some (excClassObj nm q C N bs bm true sn sub ab col dd k0 k1 k2 k3 k5 "ValueError.__new__") ∧ HandSPX.refsVE bm = true := by
  unfold oexB at q
  split at q
  · rename_i dd cd sl ho
    split at q
    · rename_i C' bm k0 k1 k2 k3 n k5 hm hs
      simp only [Bool.and_eq_true, Bool.not_eq_true', decide_eq_true_eq] at q
      obtain ⟨rfl, rfl, hdel, hdi, ht⟩ := q
      obtain ⟨nm, bs, mro, ns, qn, hd, sn, sub, ab, col, del⟩ := cd
      dsimp only at hm hdel hdi
      subst hm hdel hdi
      have hsl : sl = #[k0, k1, k2, k3, some (.builtin "ValueError.__new__"), k5] := by
        obtain ⟨l⟩ := sl
        simp only at hs
        rw [hs]
      subst hsl
      exact ⟨nm, qn, ns, bs, bm, sn, sub, ab, col, dd, k0, k1, k2, k3, k5, ho, ht⟩
    · cases q
  · cases q
/-- the same as a Bool, of the class that stands at the global's name -/
def xclsB (K : PySem.W.Frag) (c : Str) (flds : List Str) : Bool :=
  He.eqO (PySem.W.nsIn K mainGlobals c) (some (some (.ref (He.ga K c)))) && (oexB K (He.ga K c) && (He.eqO (PySem.W.findIn K (.ref (He.ga K c)) "__setattr__") (some (some (.builtin "object.__setattr__"))) &&
  (decide (PySem.W.subIn K (.ref (He.ga K c)) (.type "BaseException") = some true) && (decide (PySem.W.typeIn K (.ref (He.ga K c)) = some (.type "type")) && (PySem.W.keepIn K (.ref (He.ga K c)) && (xfB K (He.ga K c) &&
  (He.eqO (PySem.W.findIn K (.ref (He.ga K c)) "__init__") (some (some (.ref (He.fAd K (c, some "__init__"))))) && (decide (PySem.W.typeIn K (.ref (He.fAd K (c, some "__init__"))) = some (.type "function")) &&
  ((flds.all fun f => He.eqO (PySem.W.findIn K (.ref (He.ga K c)) f) (some none)) && ((PySem.W.clsIn K (He.ga K c)).isSome && (He.eqO (PySem.W.findIn K (.ref (He.ga K c)) "__class__") (some (some (.builtin "object.__class__"))) &&
  (He.eqO (PySem.W.specialIn K (.builtin "object.__class__") "__get__") (some (some (.builtin "getset_descriptor.__get__"))) && (decide (PySem.W.takesIn K (.builtin "object.__class__") = some true) && decide (PySem.W.mroIn K (He.ga K c) (.type "object") = some true))))))))))))))
theorem xcls_ok {K : PySem.W.Frag} {h : Heap} {mg : Str → Option Value} {c : Str} {flds : List Str} (X : K.In h) (G : h.Ns mainGlobals mg) (q : xclsB K c flds = true) : XCls K mg c (He.ga K c) (He.fAd K (c, some "__init__")) flds := by
  obtain ⟨h1, q⟩ := He.ba q
  obtain ⟨h2, q⟩ := He.ba q
  obtain ⟨h3, q⟩ := He.ba q
  obtain ⟨h4, q⟩ := He.ba q
  obtain ⟨h5, q⟩ := He.ba q
  obtain ⟨h6, q⟩ := He.ba q
  obtain ⟨h7, q⟩ := He.ba q
  obtain ⟨h8, q⟩ := He.ba q
  obtain ⟨h9, q⟩ := He.ba q
  obtain ⟨h10, q⟩ := He.ba q
  obtain ⟨h11, q⟩ := He.ba q
  obtain ⟨h12, q⟩ := He.ba q
  obtain ⟨h13, q⟩ := He.ba q
  obtain ⟨h14, h15⟩ := He.ba q
  exact ⟨PySem.W.mg_of X G (He.eqO_ok h1), ⟨oexB_ok h2, He.eqO_ok h3, of_decide_eq_true h4, of_decide_eq_true h5, h6⟩, xfB_ok h7, He.eqO_ok h8, of_decide_eq_true h9, fun f hf => He.eqO_ok (List.all_eq_true.mp h10 f hf), h11, He.eqO_ok h12, He.eqO_ok h13, of_decide_eq_true h14, of_decide_eq_true h15⟩

/-! ### __init__ with one field -/
def spI1 (K : PySem.W.Frag) (f : Str) : Sp := fun vs H Q _ => ∃ (a C : Addr) (y : V), vs = [.ref a, y] ∧ OexC K C ∧ PySem.W.findIn K (.ref C) f = some none ∧ H a = some (exo a C none) ∧ ∀ dx, H dx = none → dx ≠ a → Q .non (upd (upd H dx (exd dx [(f, y)])) a (exo a C (some dx)))
theorem ok_init1 {P : Program} {w : World} {K : PySem.W.Frag} {mg : Str → Option Value} {base : Heap} {qual fld sf nf : Str} {st : Stmt} {f : Addr} {fd : FuncData} {ap : Pos} {np vp sp : Pos} {k : Nat} (F : Fun K "__init__" qual st f fd) (S : FnScope [sf, nf] [sf, nf] (defScope st))
    (hb : defBody st = [.Assign [.Attribute (.Name sf np) fld ap] (.Name nf vp) sp])
    (h0 : ∀ (X : Cx) (N : List Str), X.N = [sf, nf] → X.env.scope = defScope st → True := by intros; trivial)
    (pv0 : ∀ (cdv : Value) (A : Around) (outer : List Env) (s : Shared) (H : Hp) (E : XK), PE (cxOf (L2.CX P w) P w K mg base [sf, nf] qual (defScope st) f cdv A outer s H E) (.Name sf np) (tVar 0))
    (pv1 : ∀ (cdv : Value) (A : Around) (outer : List Env) (s : Shared) (H : Hp) (E : XK), PE (cxOf (L2.CX P w) P w K mg base [sf, nf] qual (defScope st) f cdv A outer s H E) (.Name nf vp) (tVar 1))
    (hs : ∀ (X : Cx), swapsWith (.Name nf vp) (some (.Attribute (.Name sf np) fld ap)) sp.line X.env = pure false) :
    FnOk P w K mg base (L2.CX P w) (k + 1) f fd [sf, nf] (spI1 K fld) := by
  refine Fun.okX F S (fun vs H Q E ⟨a, C, y, e, _⟩ => by rw [e]; rfl) fun cdv A outer s H vs Q E hr ⟨a, C, y, e, T, no, hH, q⟩ => ?_
  subst e
  refine ⟨_, by rw [hb]; exact pss_one (ps_ost (pv0 cdv A outer s H E) (pv1 cdv A outer s H E) (hs _)), ?_⟩
  exact ⟨y, rfl, .ref a, rfl, a, C, rfl, T, no, .inl ⟨hH, q⟩⟩
theorem passes_no {X : Cx} : Passes (L2.CX X.prog X.w) X (fun _ _ _ => False) := fun _ _ _ _ _ _ _ ⟨_, _, _, _, _, _, _, _, _, _, _, _, z⟩ => z.elim

/-! ### raise -/
def mRaise (c : Str) (flds : List Str) (fa : Rho → Store → Res (List PV)) : Rho → Store → Res Out := fun ρ S => (fa ρ S).bind fun xs S1 => if xs.length = flds.length then .exc c (flds.zip xs) S1 else .bad
section
variable {X : Cx} {G : Wd} {E : XK}
theorem fs_raise1 {c fld : Str} {C fI : Addr} {k : Nat} {fd : FuncData} {ps : List Str} {p pos pos' : Pos} {e : Expr} {ta fa} (T : XCls X.K X.mg c C fI [fld]) (F : FnOk X.prog X.w X.K X.mg X.base (L2.CX X.prog X.w) k fI fd ps (spI1 X.K fld)) (hr : Room (k + 1) X.A) (hb : Binds X.K fd ps [])
    (hc : X.calm = true) (tk : Takes X fun c d _ H => E c d H) (ha : FA X G E [e] ta fa) (hg : Gl X c := by rfl) (hdb : (c == ("__debug__" : Str)) = false := by decide)
    (he : starEach [e] X.env = (false, eval e X.env) :: starEach [] X.env := by rfl) (hpl : (backTo pos (starEach [] X.env)).any (·.1) = false := by rfl) :
    FS X G E (.Raise (some (.Call (.Name c p) [e] [] pos)) none pos') (fun _ σ H => tMkO C (spI1 X.K fld) [] ta σ H fun cls d H' => E cls d H') (mRaise c [fld] fa) :=
  ⟨ps_raise (W := fun c d _ H => E c d H) hc tk (pmk_oex T.T T.iC T.tI F hr hb .nil passes_no hg T.gC ha.pe hdb he hpl), fun w ρ σ D I q => by
  refine ha.sim w ρ σ _ I (Good.imp (Good.bind1 q) (fun xs S1 h1 => ?_) fun _ _ _ h => h.step I.stp I.gok I.ok)
  intro w1 vs e1 s1 k1 r1
  subst e1
  obtain ⟨hl, h1⟩ := good_if h1
  match xs, hl with
  | [x], _ =>
    obtain ⟨v, rfl, rv⟩ := vs1 r1
    refine ⟨by simp, fun a ha => ⟨a, C, v, rfl, T.T, T.no fld List.mem_cons_self, upd_same, fun dx h1x hne => ?_⟩⟩
    have hdx : w1.H dx = none := by rw [upd_ne hne] at h1x; exact h1x
    refine ⟨rfl, dx, [(fld, v)], upd_same, ?_, hdx, ?_⟩
    · rw [upd_ne hne, upd_same]
    · have eq : upd (del (upd (upd (upd w1.H a (exo a C none)) dx (exd dx [(fld, v)])) a (exo a C (some dx))) a) dx (HO.xd [(fld, v)]) = upd w1.H dx (HO.xd [(fld, v)]) := by
        funext b
        by_cases e1 : b = dx
        · subst e1; rw [upd_same, upd_same]
        · rw [upd_ne e1, upd_ne e1]
          by_cases e2 : b = a
          · subst e2; rw [del_same, ha]
          · rw [del_ne e2, upd_ne e2, upd_ne e1, upd_ne e2]
      rw [eq]
      have I1 := I.step s1 k1
      exact h1 (w1.put dx (.xd [(fld, v)])) C dx [(fld, v)] rfl (I1.stp.tr (put_step k1 hdx) I1.gok k1) (put_ok k1 hdx) T.gC (put_at k1 hdx) ⟨v, [], rfl, rv.mono (List.prefix_refl _) (put_ext hdx), rfl⟩⟩

/-! ### try -/
/-- whatever the slots hold -/
def ExAll (W : WX) (n : Nat) : XK := fun c d H => ∀ σ : L2.St, σ.length = n → W c d σ H
theorem takes_all {W : WX} (tk : Takes X W) : Takes X (fun c d _ H => ExAll W X.N.length c d H) := fun u s' ⟨a, B, sI, pins, σ, H, cls, d, e, J, h1, h2, h3, h4, h5, h6, h7⟩ =>
  tk u s' ⟨a, B, sI, pins, σ, H, cls, d, e, J, h1, h2, h3, h4, h5, h6, h7 σ J.len⟩
/-- the exception that the suite holds: at a, of the class cls, with the dict d -/
def PinOk (mg : Str → Option Value) (G : Wd) (a : Addr) (cls : Value) (d : Option Addr) : Prop := ∃ d0 P, G.pin = some (a, d0, P) ∧ ∀ c, P c → d = some d0 ∧ ∃ C, cls = .ref C ∧ mg c = some (.ref C)
theorem pinOk_some (mg : Str → Option Value) (a : Addr) (cls : Value) (d : Option Addr) : ∃ G, PinOk mg G a cls d := ⟨⟨[], [], fun _ => none, [], some (a, 0, fun _ => False)⟩, 0, _, rfl, fun _ h => h.elim⟩
def mTry (i n : Nat) (tbl : List (Str × Bool)) (fb fs : Rho → Store → Res Out) : Rho → Store → Res Out := fun ρ S => match fb ρ S with
  | .exc c fv S1 => if tbl.lookup c = some true then (match fs ((List.replicate n Slot.none).set i (.pin c fv)) S1 with
    | .ok (.rt x) S2 => .ok (.rt x) S2
    | _ => .bad) else .bad
  | r => r
theorem takes0X : Takes X (fun _ _ _ _ => False) := fun _ _ ⟨_, _, _, _, _, _, _, _, _, _, _, _, _, _, _, _, w⟩ => w.elim
theorem lookup_mem {c : Str} {b : Bool} : ∀ {l : List (Str × Bool)}, l.lookup c = some b → (c, b) ∈ l
  | [], h => by simp at h
  | (d, x) :: l, h => by
    rw [List.lookup_cons] at h
    by_cases e : c == d
    · rw [e] at h
      have : c = d := beq_iff_eq.mp e
      subst this
      simp at h
      subst h
      exact List.mem_cons_self
    · rw [Bool.not_eq_true] at e
      rw [e] at h
      exact List.mem_cons_of_mem _ (lookup_mem h)
theorem fs_try {x nm : Str} {cv : Value} {i n : Nat} {body suite : List Stmt} {b₀ : Stmt} {np pos pos' : Pos} {tb : WX → TS} {ts : Addr → Value → Option Addr → TS} {fb fs} {tbl : List (Str × Bool)} (hs : X.stack = X.env :: X.outer) (hf : X.env.frame = some X.env.locals) (hN : X.N.Nodup) (hi : X.N[i]? = some nm) (hln : X.env.kindOf nm = some .local) (hc : Names X x cv) (hn : X.N.length = n)
    (ht : ∀ p ∈ tbl, ∃ C, X.mg p.1 = some (.ref C) ∧ PySem.W.exmOne X.K (.ref C) cv = some p.2)
    (hb : ∀ (W : WX) (pn : List (Addr × Obj)) (xe : Value → Shared → Prop), Takes (X.tr pn xe) (fun c d _ H => ExAll W n c d H) → FSs (X.tr pn xe) G (ExAll W n) body (tb W) fb)
    (hsu : ∀ (G : Wd) (a : Addr) (oe : Obj) (cls : Value) (d : Option Addr) (pn : List (Addr × Obj)), Zc cls d oe → (∃ vs, oe.data = .fields vs) → PinOk X.mg G a cls d → FSs (X.suite a ((a, oe) :: pn)) G (fun _ _ _ => False) (b₀ :: suite) (ts a cls d) fs) :
    FS X G E (.Try body [.ExceptHandler (some (.Name x np)) (some nm) (b₀ :: suite) pos'] [] [] pos) (fun D σ H => tb (wAs X.K cv i ts (fun _ _ _ _ => False) D) D σ H) (mTry i n tbl fb fs) :=
  ⟨ps_try_as hs hf hN hi hln hc takes0X (fun W pn xe tk po => (hb W pn xe (hn ▸ takes_all (X := X.tr pn xe) tk)).pe) (fun a oe cls d pn hz hf => by
    obtain ⟨G1, h1⟩ := pinOk_some X.mg a cls d
    exact (hsu G1 a oe cls d pn hz hf h1).pe), fun w ρ σ D I q => by
  refine (hb (wAs X.K cv i ts (fun _ _ _ _ => False) D) [] (fun _ _ => True) (fun _ _ _ => trivial)).sim w ρ σ D I ?_
  unfold mTry at q
  cases er : fb ρ w.S with
  | ok o S1 => rw [er] at q; exact q
  | bad => rw [er] at q; exact q
  | exc c fv S1 =>
    rw [er] at q
    have q : Good (if tbl.lookup c = some true then (match fs ((List.replicate n Slot.none).set i (.pin c fv)) S1 with
      | .ok (.rt x) S2 => .ok (.rt x) S2
      | _ => .bad) else .bad) (PostS X.K G w D) (ExP X.K X.mg E G) := q
    obtain ⟨hl, q⟩ := good_if q
    intro w' C d vs eS sG k' hm hd rf σ' hl'
    subst eS
    obtain ⟨C', m1, m2⟩ := ht _ (lookup_mem hl)
    have : C' = C := by rw [hm] at m1; cases m1; rfl
    subst this
    refine ⟨true, m2, fun _ a ha => ?_, fun z => nomatch z⟩
    have hnl : i < n := by rw [← hn]; exact (List.getElem?_eq_some_iff.mp hi).1
    let Gp : Wd := { G with pin := some (a, d, fun c' => X.mg c' = some (.ref C')) }
    have stp : WStep Gp w' := ⟨sG.pre, sG.keep, sG.omono, sG.oset, sG.lset⟩
    have gok : WOk X.K Gp := ⟨I.gok.sub, I.gok.nd, I.gok.len, I.gok.st, I.gok.dom⟩
    have pk : PinOk X.mg Gp a (.ref C') (some d) := ⟨d, _, rfl, fun c' h => ⟨rfl, C', rfl, h⟩⟩
    -- a dummy object for the suite's own Obj
    have J : FI X.K Gp w' ((List.replicate n Slot.none).set i (.pin c fv)) (σ'.set i (some (.ref a))) := by
      refine ⟨gok, k', stp, by simp [hl'], fun j y h => ?_, fun j o h => ?_, fun j k oj ok' n h1 h2 => ?_, fun j c2 fs2 h => ?_⟩
      · rcases set_get h with ⟨_, e⟩ | ⟨_, h⟩
        · cases e
        · have := List.mem_of_getElem? h; rw [List.mem_replicate] at this; cases this.2
      · rcases set_get h with ⟨_, e⟩ | ⟨_, h⟩
        · cases e
        · have := List.mem_of_getElem? h; rw [List.mem_replicate] at this; cases this.2
      · rcases set_get h1 with ⟨_, e⟩ | ⟨_, h⟩
        · cases e
        · have := List.mem_of_getElem? h; rw [List.mem_replicate] at this; cases this.2
      · rcases set_get h with ⟨rfl, e⟩ | ⟨_, h⟩
        · cases e
          exact ⟨a, d, _, vs, rfl, by rw [List.getElem?_set_self (by rw [hl']; exact hnl)], hm, hd, rf⟩
        · have := List.mem_of_getElem? h; rw [List.mem_replicate] at this; cases this.2
    have oe : Obj := ⟨.ref C', some d, .fields #[], #[]⟩
    refine (hsu Gp a ⟨.ref C', some d, .fields #[], #[]⟩ (.ref C') (some d) [] ⟨rfl, rfl⟩ ⟨_, rfl⟩ pk).sim w' _ _ _ J ?_
    cases es : fs ((List.replicate n Slot.none).set i (.pin c fv)) w'.S with
    | exc c2 f2 S2 => rw [es] at q; exact q.elim
    | bad => rw [es] at q; exact q.elim
    | ok o S2 =>
      rw [es] at q
      cases o with
      | nx ρ2 => exact q.elim
      | bk ρ2 => exact q.elim
      | ct ρ2 => exact q.elim
      | rt y =>
        intro w2 v e2 s2 k2 r2
        exact q w2 v e2 ⟨s2.pre, s2.keep, s2.omono, s2.oset, s2.lset⟩ k2 r2⟩
/-! ### in the suite -/
variable {a : Addr} {oe : Obj} {cls : Value} {d : Option Addr} {pn : List (Addr × Obj)}
/-- e.f, e the exception in hand (slot i), of one of the classes cs -/
def mFld (i : Nat) (cs : List Str) (f : Str) : Rho → Store → Res PV := fun ρ S => match ρ[i]? with
  | some (.pin c fs) => if cs.contains c = true then (match fs.lookup f with
    | some x => .ok x S
    | none => .bad) else .bad
  | _ => .bad
theorem rf_lookup {K : PySem.W.Frag} {L Hc} {f : Str} {x : PV} : ∀ {fs : List (Str × PV)} {vs : List (Str × V)}, RF K L Hc fs vs → fs.lookup f = some x → ∃ v, vs.lookup f = some v ∧ RV K L Hc x v
  | [], _, _, h => by simp at h
  | (g, y) :: fs, _, ⟨v, r, e, h1, h2⟩, h => by
    subst e
    rw [List.lookup_cons] at h ⊢
    by_cases q : (f == g) = true
    · rw [q] at h ⊢
      cases h
      exact ⟨v, rfl, h1⟩
    · rw [Bool.not_eq_true] at q
      rw [q] at h ⊢
      exact rf_lookup h2 h
def tFld (K : PySem.W.Frag) (a : Addr) (cls : Value) (d : Option Addr) (f : Str) (te : TE) : TE := fun σ H Q => ∃ C, XfC K C ∧ PySem.W.findIn K (.ref C) f = some none ∧ tXf a cls d C f te σ H Q
theorem fe_fld {i : Nat} {x f : Str} {px pos : Pos} {cs : List Str} (hz : Zc cls d oe) (hf : ∃ vs, oe.data = .fields vs) (hp : PinOk X.mg G a cls d) (hx : PE (X.suite a ((a, oe) :: pn)) (.Name x px) (tVar i)) (hcs : ∀ c ∈ cs, ∃ C fI flds, XCls X.K X.mg c C fI flds ∧ f ∈ flds)
    (hb : attributeBase (.Name x px) f X.env (eval (.Name x px) X.env) = eval (.Name x px) X.env := by rfl) : FE (X.suite a ((a, oe) :: pn)) G E (.Attribute (.Name x px) f pos) (tFld X.K a cls d f (tVar i)) (mFld i cs f) :=
  ⟨⟨fun pins s σ H Q I ⟨C, h1, h2, h3⟩ => (pe_xf h1 h2 hz hf hx hb).run pins s σ H Q I h3⟩, fun w ρ σ Q I q => by
  unfold mFld at q
  split at q
  · rename_i c fs hi
    obtain ⟨hc, q⟩ := good_if q
    obtain ⟨a', d', P, vs, g1, g2, g3, g4, g5⟩ := I.pin i c fs hi
    obtain ⟨d0, P0, e1, e2⟩ := hp
    rw [e1] at g1
    cases g1
    obtain ⟨ed, C, ec, em⟩ := e2 c g3
    obtain ⟨C', fI, flds, T, hf'⟩ := hcs c (List.contains_iff_mem.mp hc)
    have : C' = C := by have := T.gC; rw [em] at this; cases this; rfl
    subst this
    split at q
    · rename_i y hy
      obtain ⟨v, l1, l2⟩ := rf_lookup g5 hy
      exact ⟨C', T.X, T.no f hf', _, g2, rfl, ec, _, vs, v, ed, (cut_some g4).2, l1, q w v rfl (WStep.refl I.ok.sub) I.ok l2⟩
    · exact q.elim
  · exact q.elim⟩
/-- isinstance(e, T) of the exception in hand -/
def mXis (i : Nat) (tbl : List (Str × Bool)) : Rho → Store → Res PV := fun ρ S => match ρ[i]? with
  | some (.pin c _) => match tbl.lookup c with
    | some b => .ok (.bl b) S
    | none => .bad
  | _ => .bad
/-- what isinstance asks of the class at C -/
structure IsC (K : PySem.W.Frag) (C : Addr) : Prop where
  cl : (PySem.W.clsIn K C).isSome = true
  hg : PySem.W.findIn K (.ref C) "__getattribute__" = some (some (.builtin "BaseException.__getattribute__"))
  hk : PySem.W.findIn K (.ref C) "__getattr__" = some none
  hs : PySem.W.subIn K (.ref C) (.type "BaseException") = some true
  ha : PySem.W.findIn K (.ref C) "__class__" = some (some (.builtin "object.__class__"))
  hn : PySem.W.specialIn K (.builtin "object.__class__") "__get__" = some (some (.builtin "getset_descriptor.__get__"))
  ht : PySem.W.takesIn K (.builtin "object.__class__") = some true
  hm : PySem.W.mroIn K C (.type "object") = some true
theorem XCls.is {K mg c C fI flds} (T : XCls K mg c C fI flds) : IsC K C := ⟨T.cl, T.X.ga, T.X.gg, T.T.exC, T.ha, T.hn, T.ht, T.hm⟩
def rXis (K : PySem.W.Frag) (a : Addr) (cls : Value) (d : Option Addr) : List V → Hp → VK → Prop := fun xs H Q => ∃ (C dd : Addr) (fs : List (Str × V)) (c : V) (cv : Value) (b : Bool), IsC K C ∧ cls = .ref C ∧ d = some dd ∧ H dd = some (.xd fs) ∧ xs = [.ref a, c] ∧ ClsV c cv ∧ PySem.W.kitOne K (.ref C) cv = some b ∧ Q (.bl b) H
def rXisT (K : PySem.W.Frag) (a : Addr) (cls : Value) (d : Option Addr) : List V → Hp → VK → Prop := fun xs H Q => ∃ (C dd tp : Addr) (fs : List (Str × V)) (cs : List V) (us : List Value) (b : Bool), IsC K C ∧ cls = .ref C ∧ d = some dd ∧ H dd = some (.xd fs) ∧ xs = [.ref a, .ref tp] ∧ H tp = some (.tup cs) ∧ Paired ClsV cs us ∧ PySem.W.kitAny K (.ref C) us = some b ∧ Q (.bl b) H
theorem inst_pin {pins : List (Addr × Obj)} {σ : L2.St} {H : Hp} {s : Shared} {dd C : Addr} {fs : List (Str × V)} (I : Inv (X.suite a ((a, oe) :: pn)) pins σ H s) (hz : Zc (.ref C) (some dd) oe) (hf : ∃ vs, oe.data = .fields vs) (hd : H dd = some (.xd fs)) : ∃ od, PySem.W.InstAt s.heap a oe C (some od) := by
  obtain ⟨ha, _⟩ := I.pin (a, oe) (List.mem_append_left _ List.mem_cons_self)
  obtain ⟨vs, hdt⟩ := hf
  have hx : ObjOk X.prog X.w H s.heap dd (.xd fs) := I.hok dd _ hd
  obtain ⟨mA, hns, hr⟩ := hx
  obtain ⟨od, ho, hl⟩ := lookIn_ns hns
  exact ⟨od, ha, hz.1, by unfold PySem.W.notCls; rw [hdt] <;> rfl, by rw [hz.2]; exact ho⟩
theorem call_xis (hz : Zc cls d oe) (hf : ∃ vs, oe.data = .fields vs) : CallR (X.suite a ((a, oe) :: pn)) (.builtin "isinstance") (rXis X.K a cls d) := by
  intro pins s σ H xs us Q I r h
  obtain ⟨C, dd, fs, c, cv, b, T, rfl, rfl, hd, rfl, kc, e, q⟩ := h
  obtain ⟨u1, u2, rfl, r1, r2⟩ := vals2 r
  have e2 := kc.eq r2
  subst e2
  cases (show u1 = Value.ref a from r1)
  obtain ⟨od, J⟩ := inst_pin I hz hf hd
  exact PySem.W.kia_one (PySem.W.kitx_exc T.cl T.hg T.hk T.hs T.ha T.hn T.ht T.hm) I.kIn J e (fun z => nomatch z) fun tk => ⟨.bl b, H, I.tok tk, rfl, q⟩
theorem call_xisT (hz : Zc cls d oe) (hf : ∃ vs, oe.data = .fields vs) : CallR (X.suite a ((a, oe) :: pn)) (.builtin "isinstance") (rXisT X.K a cls d) := by
  intro pins s σ H xs us Q I r h
  obtain ⟨C, dd, tp, fs, cs, ws, b, T, rfl, rfl, hd, rfl, hT, kc, e, q⟩ := h
  obtain ⟨u1, u2, rfl, r1, r2⟩ := vals2 r
  cases (show u1 = Value.ref a from r1)
  cases (show u2 = Value.ref tp from r2)
  obtain ⟨od, J⟩ := inst_pin I hz hf hd
  obtain ⟨_, its, rv, o, h1, h2, n, h3⟩ := (show ObjOk X.prog X.w H s.heap tp (.tup cs) from I.hok tp _ hT)
  have e3 := ClsV.all kc rv
  subst e3
  obtain ⟨oc, od', dt, sl⟩ := o
  simp only at h2 h3
  subst h2 h3
  exact PySem.W.kia_tup (PySem.W.kitx_exc T.cl T.hg T.hk T.hs T.ha T.hn T.ht T.hm) I.kIn J h1 e (fun z => nomatch z) fun tk => ⟨.bl b, H, I.tok tk, rfl, q⟩
/-- what a class's name in the text stands for -/
structure ClsN (X : Cx) (Tn : Str) (c : V) (cv : Value) : Prop where
  k : ClsV c cv
  pe : ∀ pT, PE X (.Name Tn pT) (tC c)
theorem clsN_own {Tn : Str} {C : Addr} (hm : X.mg Tn = some (.ref C)) (hg : Gl X Tn := by rfl) (hdb : (Tn == ("__debug__" : Str)) = false := by decide) : ClsN X Tn (.ref C) (.ref C) := ⟨.own C, fun pT => pe_glob hg hm rfl hdb⟩
theorem clsN_ty {Tn : Str} {T : String} (hm : X.mg Tn = none) (hb : bootBuiltins Tn = some (.type T) := by decide +kernel) (hg : Gl X Tn := by rfl) (hn : Tn ≠ "__name__" := by decide) (hdb : (Tn == ("__debug__" : Str)) = false := by decide) : ClsN X Tn (.ty T) (.type T) := ⟨.ty T, fun pT => pe_bltn hg hm hb rfl hn hdb⟩
theorem sim_xis {i : Nat} {tbl : List (Str × Bool)} {c : V} {cv : Value} (hp : PinOk X.mg G a cls d) (k : ClsV c cv) (ht : ∀ p ∈ tbl, ∃ C, X.mg p.1 = some (.ref C) ∧ IsC X.K C ∧ PySem.W.kitOne X.K (.ref C) cv = some p.2) : ESim X.K X.mg G E (tCB (rXis X.K a cls d) (tCons (tVar i) (tCons (tC c) tNil))) (mXis i tbl) := fun w ρ σ Q I q => by
  unfold mXis at q
  split at q
  · rename_i c' fs hi
    split at q
    · rename_i b hl
      obtain ⟨a', d', P, vs, g1, g2, g3, g4, g5⟩ := I.pin i c' fs hi
      obtain ⟨d0, P0, e1, e2⟩ := hp
      rw [e1] at g1
      cases g1
      obtain ⟨ed, C, ec, em⟩ := e2 c' g3
      obtain ⟨C', m1, m2, m3⟩ := ht _ (lookup_mem hl)
      have : C' = C := by have m1 : X.mg c' = _ := m1; rw [em] at m1; cases m1; rfl
      subst this
      exact ⟨_, g2, C', _, vs, c, cv, b, m2, ec, ed, (cut_some g4).2, rfl, k, m3, q w (.bl b) rfl (WStep.refl I.ok.sub) I.ok rfl⟩
    · exact q.elim
  · exact q.elim
theorem fe_xis {i : Nat} {x Tn : Str} {p px pT pos : Pos} {tbl : List (Str × Bool)} {c : V} {cv : Value} (hz : Zc cls d oe) (hf : ∃ vs, oe.data = .fields vs) (hp : PinOk X.mg G a cls d) (hx : PE (X.suite a ((a, oe) :: pn)) (.Name x px) (tVar i)) (hm : X.mg "isinstance" = none) (hT : ClsN (X.suite a ((a, oe) :: pn)) Tn c cv)
    (ht : ∀ p ∈ tbl, ∃ C, X.mg p.1 = some (.ref C) ∧ IsC X.K C ∧ PySem.W.kitOne X.K (.ref C) cv = some p.2) (hg : Gl (X.suite a ((a, oe) :: pn)) "isinstance" := by rfl)
    (hs : starEach [.Name x px, .Name Tn pT] X.env = (false, eval (.Name x px) X.env) :: starEach [.Name Tn pT] X.env := by rfl) (hpl : (backTo pos (starEach [.Name Tn pT] X.env)).any (·.1) = false := by rfl) (hs2 : starEach [.Name Tn pT] X.env = (false, eval (.Name Tn pT) X.env) :: starEach [] X.env := by rfl) :
    FE (X.suite a ((a, oe) :: pn)) G E (.Call (.Name "isinstance" p) [.Name x px, .Name Tn pT] [] pos) (tCB (rXis X.K a cls d) (tCons (tVar i) (tCons (tC c) tNil))) (mXis i tbl) :=
  ⟨pe_callB (call_xis hz hf) hg hm (by decide +kernel) (pa_cons hx (pa_cons (hT.pe pT) pa_nil hs2) hs) (by decide) (by decide) hs hpl, sim_xis hp hT.k ht⟩
/-- a tuple of classes -/
def tCs : List V → TA
  | [] => tNil
  | c :: cs => tCons (tC c) (tCs cs)
theorem tCs_ok {σ : L2.St} : ∀ {cs : List V} {H : Hp} {Q : List V → Hp → Prop}, Q cs H → tCs cs σ H Q
  | [], _, _, h => h
  | c :: cs, H, Q, h => tCs_ok (cs := cs) (Q := fun vs H2 => Q (c :: vs) H2) h
/-- the classes of a tuple in the text -/
inductive ClsNs (X : Cx) : List Expr → List V → List Value → Prop
  | nil : ClsNs X [] [] []
  | cons {Tn : Str} {pT : Pos} {es : List Expr} {c : V} {cv : Value} {cs : List V} {us : List Value} (h : ClsN X Tn c cv) (r : ClsNs X es cs us) (hs : starEach (.Name Tn pT :: es) X.env = (false, eval (.Name Tn pT) X.env) :: starEach es X.env := by rfl) : ClsNs X (.Name Tn pT :: es) (c :: cs) (cv :: us)
theorem ClsNs.pa {es cs us} (h : ClsNs X es cs us) : PA X es (tCs cs) := by
  induction h with
  | nil => exact pa_nil
  | cons h r hs ih => exact pa_cons (h.pe _) ih hs
theorem ClsNs.pr {es cs us} (h : ClsNs X es cs us) : Paired ClsV cs us := by
  induction h with
  | nil => exact .nil
  | cons h r hs ih => exact .cons h.k ih
theorem ClsNs.len {es cs us} (h : ClsNs X es cs us) : cs.length = es.length := by
  induction h with
  | nil => rfl
  | cons h r hs ih => simp [ih]
theorem sim_xisT {i : Nat} {tbl : List (Str × Bool)} {cs : List V} {us : List Value} (hp : PinOk X.mg G a cls d) (k : Paired ClsV cs us) (hl : cs.length ≤ sizeM) (ht : ∀ p ∈ tbl, ∃ C, X.mg p.1 = some (.ref C) ∧ IsC X.K C ∧ PySem.W.kitAny X.K (.ref C) us = some p.2) :
    ESim X.K X.mg G E (tCB (rXisT X.K a cls d) (tCons (tVar i) (tCons (tTup (tCs cs)) tNil))) (mXis i tbl) := fun w ρ σ Q I q => by
  unfold mXis at q
  split at q
  · rename_i c' fs hi
    split at q
    · rename_i b hlk
      obtain ⟨a', d', P, vs, g1, g2, g3, g4, g5⟩ := I.pin i c' fs hi
      obtain ⟨d0, P0, e1, e2⟩ := hp
      rw [e1] at g1
      cases g1
      obtain ⟨ed, C, ec, em⟩ := e2 c' g3
      obtain ⟨C', m1, m2, m3⟩ := ht _ (lookup_mem hlk)
      have : C' = C := by have m1 : X.mg c' = _ := m1; rw [em] at m1; cases m1; rfl
      subst this
      refine ⟨_, g2, tCs_ok ⟨sizeM_le hl, fun p hpn => ?_⟩⟩
      have hd := (cut_some g4).2
      exact ⟨C', _, p, vs, cs, us, b, m2, ec, ed, by rw [upd_ne (ne_of_none hd hpn)]; exact hd, rfl, upd_same, k, m3, q (w.put p (.tup cs)) (.bl b) rfl (put_step I.ok hpn) (put_ok I.ok hpn) rfl⟩
    · exact q.elim
  · exact q.elim
theorem fe_xisT {i : Nat} {x : Str} {p px pT pos : Pos} {kk : Nat} {es : List Expr} {tbl : List (Str × Bool)} {cs : List V} {us : List Value} (hz : Zc cls d oe) (hf : ∃ vs, oe.data = .fields vs) (hp : PinOk X.mg G a cls d) (hx : PE (X.suite a ((a, oe) :: pn)) (.Name x px) (tVar i)) (hm : X.mg "isinstance" = none) (hT : ClsNs (X.suite a ((a, oe) :: pn)) es cs us)
    (ht : ∀ p ∈ tbl, ∃ C, X.mg p.1 = some (.ref C) ∧ IsC X.K C ∧ PySem.W.kitAny X.K (.ref C) us = some p.2) (hl : es.length ≤ 1000 := by decide) (hg : Gl (X.suite a ((a, oe) :: pn)) "isinstance" := by rfl)
    (hs : starEach [.Name x px, .Tuple es kk pT] X.env = (false, eval (.Name x px) X.env) :: starEach [.Tuple es kk pT] X.env := by rfl) (hpl : (backTo pos (starEach [.Tuple es kk pT] X.env)).any (·.1) = false := by rfl) (hs2 : starEach [.Tuple es kk pT] X.env = (false, eval (.Tuple es kk pT) X.env) :: starEach [] X.env := by rfl) :
    FE (X.suite a ((a, oe) :: pn)) G E (.Call (.Name "isinstance" p) [.Name x px, .Tuple es kk pT] [] pos) (tCB (rXisT X.K a cls d) (tCons (tVar i) (tCons (tTup (tCs cs)) tNil))) (mXis i tbl) :=
  ⟨pe_callB (call_xisT hz hf) hg hm (by decide +kernel) (pa_cons hx (pa_cons (pe_tup hT.pa) pa_nil hs2) hs) (by decide) (by decide) hs hpl, sim_xisT hp hT.pr (by rw [hT.len]; exact Nat.le_trans hl (by decide)) ht⟩
end
end Mir
set_option maxHeartbeats 4000000
/-! MirY: == and in of data, bits, unpacking, index, pop, extend, constants. -/
namespace Mir
open PySem PySem.Spec PyProof.Rows L2
/-! ### == and in -/
def gEqDeep (neg : Bool) (x y : PV) (S : Store) : Res PV := match toD x, toD y with
  | some d, some e => if (SeqAt.shaped d && SeqAt.shaped e) = true then .ok (.bl (if neg then !PyData.eqv d e else PyData.eqv d e)) S else .bad
  | _, _ => .bad
/-- == of data; two texts are asked as such -/
def gEqD (neg : Bool) : PV → PV → Store → Res PV
  | .str a, .str b, S => .ok (.bl (if neg then !decide (a = b) else decide (a = b))) S
  | x, y, S => gEqDeep neg x y S
abbrev rEqE (K : PySem.W.Frag) : R2 := fun x y H Q => rEq x y H Q ∨ rEqD K x y H Q
abbrev rNeE (K : PySem.W.Frag) : R2 := fun x y H Q => rNe x y H Q ∨ rNeD K x y H Q
section
variable {K : PySem.W.Frag} {mg : Str → Option Value} {E : XK}
theorem r2_eqDeep : R2Sim K mg E (rEqD K) (gEqDeep false) := fun w x y v u Q k rx ry g => by
  unfold gEqDeep at g
  split at g
  · rename_i d e h1 h2
    obtain ⟨c, g⟩ := good_if g
    obtain ⟨c1, c2⟩ := He.ba c
    exact ⟨d, e, toD_dp (fun a o h => (cut_some h).2) h1 rx, toD_dp (fun a o h => (cut_some h).2) h2 ry, c1, c2, g w _ rfl (WStep.refl k.sub) k rfl⟩
  · exact g.elim
theorem r2_neDeep : R2Sim K mg E (rNeD K) (gEqDeep true) := fun w x y v u Q k rx ry g => by
  unfold gEqDeep at g
  split at g
  · rename_i d e h1 h2
    obtain ⟨c, g⟩ := good_if g
    obtain ⟨c1, c2⟩ := He.ba c
    exact ⟨d, e, toD_dp (fun a o h => (cut_some h).2) h1 rx, toD_dp (fun a o h => (cut_some h).2) h2 ry, c1, c2, g w _ rfl (WStep.refl k.sub) k rfl⟩
  · exact g.elim
theorem gEqD_else {neg : Bool} {x y : PV} {S : Store} (h : ¬ ∃ a b, x = .str a ∧ y = .str b) : gEqD neg x y S = gEqDeep neg x y S := by
  cases x <;> cases y <;> first | rfl | exact absurd ⟨_, _, rfl, rfl⟩ h
theorem gEq_str {neg : Bool} {a b : Str} {S : Store} : gEqD neg (.str a) (.str b) S = gEq neg (.str a) (.str b) S := by
  unfold gEq
  simp only [toV, scal, if_pos, V.str.injEq]
  cases neg <;> rfl
theorem r2_eqD : R2Sim K mg E (rEqE K) (gEqD false) := fun w x y v u Q k rx ry g => by
  by_cases h : ∃ a b, x = .str a ∧ y = .str b
  · obtain ⟨a, b, rfl, rfl⟩ := h
    rw [gEq_str] at g
    exact .inl (r2_eq (K := K) (mg := mg) (E := E) w _ _ v u Q k rx ry g)
  · rw [gEqD_else h] at g
    exact .inr (r2_eqDeep (mg := mg) (E := E) w x y v u Q k rx ry g)
theorem r2_neD : R2Sim K mg E (rNeE K) (gEqD true) := fun w x y v u Q k rx ry g => by
  by_cases h : ∃ a b, x = .str a ∧ y = .str b
  · obtain ⟨a, b, rfl, rfl⟩ := h
    rw [gEq_str] at g
    exact .inl (r2_ne (K := K) (mg := mg) (E := E) w _ _ v u Q k rx ry g)
  · rw [gEqD_else h] at g
    exact .inr (r2_neDeep (mg := mg) (E := E) w x y v u Q k rx ry g)
/-- x in y, data of any depth: y a list or a tuple -/
def gInD (neg : Bool) (x y : PV) (S : Store) : Res PV := match toD x, toD y with
  | some d, some (.list ds) => if (SeqAt.shaped d && SeqAt.shaped (.list ds)) = true then .ok (.bl (if neg then !(ds.any fun z => PyData.eqv z d) else ds.any fun z => PyData.eqv z d)) S else .bad
  | some d, some (.tuple ds) => if (SeqAt.shaped d && SeqAt.shaped (.tuple ds)) = true then .ok (.bl (if neg then !(ds.any fun z => PyData.eqv z d) else ds.any fun z => PyData.eqv z d)) S else .bad
  | _, _ => .bad
def rInT (K : PySem.W.Frag) (neg : Bool) : R2 := fun x y H Q => ∃ d ds, Dp K H x d ∧ Dp K H y (.tuple ds) ∧ SeqAt.shaped d = true ∧ SeqAt.shaped (.tuple ds) = true ∧ Q (.bl (if neg then !(ds.any fun z => PyData.eqv z d) else ds.any fun z => PyData.eqv z d)) H
theorem op_inT {X : Cx} (hu : X.A.units + 65 < cLine) : OpR X (compareOp .In) (rInT X.K false) := fun pins s σ H x y v u Q I rx ry ⟨d, ds, hd, he, sd, se, q⟩ => by
  obtain ⟨as, r1⟩ := Dp.reads I d x v hd rx
  obtain ⟨bs, r2⟩ := Dp.reads I (.tuple ds) y u he ry
  exact SeqAt.in_tuple_reads r2 r1 (by have := SeqAt.canLay_of_shaped se; simpa only [PyData.canLay0] using this) (SeqAt.canLay_of_shaped sd) (room_in_shaped sd hu) ⟨.bl _, H, I, rfl, q⟩
abbrev rInA (K : PySem.W.Frag) : R2 := fun x y H Q => rInD K x y H Q ∨ rInT K false x y H Q
theorem op_inA {X : Cx} (hu : X.A.units + 65 < cLine) : OpR X (compareOp .In) (rInA X.K) := (op_inD hu).or (op_inT hu)
theorem r2_inA : R2Sim K mg E (rInA K) (gInD false) := fun w x y v u Q k rx ry g => by
  unfold gInD at g
  split at g
  · rename_i d ds h1 h2
    obtain ⟨c, g⟩ := good_if g
    obtain ⟨c1, c2⟩ := He.ba c
    exact .inl ⟨d, ds, toD_dp (fun a o h => (cut_some h).2) h1 rx, toD_dp (fun a o h => (cut_some h).2) h2 ry, c1, c2, g w _ rfl (WStep.refl k.sub) k rfl⟩
  · rename_i d ds h1 h2
    obtain ⟨c, g⟩ := good_if g
    obtain ⟨c1, c2⟩ := He.ba c
    exact .inr ⟨d, ds, toD_dp (fun a o h => (cut_some h).2) h1 rx, toD_dp (fun a o h => (cut_some h).2) h2 ry, c1, c2, g w _ rfl (WStep.refl k.sub) k rfl⟩
  · exact g.elim
/-! ### is -/
def gIsA : PV → PV → Store → Res PV
  | .bl a, .bl b, S => .ok (.bl (decide (a = b))) S
  | x, y, S => gIs false x y S
abbrev rIsA : R2 := fun x y H Q => (y = .non ∧ Q (.bl (decide (x = .non))) H) ∨ (∃ a b : Bool, x = .bl a ∧ y = .bl b ∧ Q (.bl (decide (a = b))) H)
theorem op_isA {X : Cx} : OpR X (compareOp .Is) rIsA := op_isN.or op_is_bl
theorem r2_isA : R2Sim K mg E rIsA gIsA := fun w x y v u Q k rx ry g => by
  by_cases h : ∃ a b, x = .bl a ∧ y = .bl b
  · obtain ⟨a, b, rfl, rfl⟩ := h
    exact .inr ⟨a, b, rx, ry, g w _ rfl (WStep.refl k.sub) k rfl⟩
  · refine .inl (r2_is (mg := mg) (E := E) w x y v u Q k rx ry ?_)
    have e : gIsA x y w.S = gIs false x y w.S := by
      cases x <;> cases y <;> first | rfl | exact absurd ⟨_, _, rfl, rfl⟩ h
    rw [← e]
    exact g
/-! ### bits -/
def gBit (f : Int → Int → Int) : PV → PV → Store → Res PV
  | .int i, .int j, S => .ok (.int (f i j)) S
  | _, _, _ => .bad
theorem r2_bit {f : Int → Int → Int} : R2Sim K mg E (rI0 fun i j => .int (f i j)) (gBit f) := fun w x y v u Q k rx ry g => by
  cases x <;> first | exact g.elim | skip
  cases y <;> first | exact g.elim | skip
  exact ⟨_, _, rx, ry, g w _ rfl (WStep.refl k.sub) k rfl⟩
def gShr : PV → PV → Store → Res PV
  | .int i, .int j, S => if 0 ≤ j then .ok (.int (i / 2 ^ j.toNat)) S else .bad
  | _, _, _ => .bad
theorem r2_shr : R2Sim K mg E (rI (fun _ j => 0 ≤ j) fun i j => .int (i / 2 ^ j.toNat)) gShr := fun w x y v u Q k rx ry g => by
  cases x <;> first | exact g.elim | skip
  cases y <;> first | exact g.elim | skip
  obtain ⟨c, g⟩ := good_if g
  exact ⟨_, _, rx, ry, c, g w _ rfl (WStep.refl k.sub) k rfl⟩
end
/-! ### constants of the modules -/
mutual
def pvB (K : PySem.W.Frag) : PV → Value → Bool
  | .non, .none => true
  | .bl b, .bool c => b == c
  | .int i, .int j _ => decide (i = j)
  | .str x, .str y _ => decide (x = y)
  | .tup xs, .ref a => (match K.lookup a with
    | some ⟨.type c, _, .seq its _, _⟩ => decide (c = "tuple") && (decide (its.size ≤ sizeLine) && pvBs K xs its.toList)
    | _ => false)
  | _, _ => false
def pvBs (K : PySem.W.Frag) : List PV → List Value → Bool
  | [], [] => true
  | x :: xs, u :: us => pvB K x u && pvBs K xs us
  | _, _ => false
end
mutual
theorem pvB_ok {K : PySem.W.Frag} : ∀ {p : PV} {u : Value}, pvB K p u = true → ∃ v, RelV v u ∧ ∀ L Hc, RV K L Hc p v
  | .non, u, h => by
    cases u <;> simp only [pvB] at h <;> first | (cases h; done) | exact ⟨.non, rfl, fun _ _ => rfl⟩
  | .bl b, u, h => by
    cases u with
    | bool c =>
      simp only [pvB] at h
      rw [eq_of_beq h]
      exact ⟨.bl c, rfl, fun _ _ => rfl⟩
    | _ => simp only [pvB] at h; cases h
  | .int i, u, h => by
    cases u with
    | int c t =>
      simp only [pvB] at h
      rw [of_decide_eq_true h]
      exact ⟨.int c, ⟨t, rfl⟩, fun _ _ => rfl⟩
    | _ => simp only [pvB] at h; cases h
  | .str i, u, h => by
    cases u with
    | str c t =>
      simp only [pvB] at h
      rw [of_decide_eq_true h]
      exact ⟨.str c, ⟨t, rfl⟩, fun _ _ => rfl⟩
    | _ => simp only [pvB] at h; cases h
  | .tup xs, u, h => by
    cases u with
    | ref a =>
      simp only [pvB] at h
      cases q : K.lookup a with
      | none => rw [q] at h; cases h
      | some o =>
        obtain ⟨oc, od, dt, osl⟩ := o
        rw [q] at h
        cases oc with
        | type c =>
          cases dt with
          | seq its n =>
            obtain ⟨h1, h2⟩ := He.ba (show (decide (c = "tuple") && (decide (its.size ≤ sizeLine) && pvBs K xs its.toList)) = true from h)
            obtain ⟨h3, h4⟩ := He.ba h2
            obtain ⟨vs, e1, e2⟩ := pvBs_ok h4
            exact ⟨.ref a, rfl, fun L Hc => ⟨a, vs, rfl, .inr ⟨_, its, n, q, congrArg Value.type (of_decide_eq_true h1), rfl, of_decide_eq_true h3, e1⟩, e2 L Hc⟩⟩
          | _ => cases h
        | _ => cases dt <;> cases h
    | _ => simp only [pvB] at h; cases h
  | .lst _, u, h => by cases u <;> simp only [pvB] at h <;> cases h
  | .cl _, u, h => by cases u <;> simp only [pvB] at h <;> cases h
  | .obj _, u, h => by cases u <;> simp only [pvB] at h <;> cases h
theorem pvBs_ok {K : PySem.W.Frag} : ∀ {xs : List PV} {us : List Value}, pvBs K xs us = true → ∃ vs, Vals vs us ∧ ∀ L Hc, RVs K L Hc xs vs
  | [], us, h => by
    cases us with
    | nil => exact ⟨[], .nil, fun _ _ => rfl⟩
    | cons u us => simp only [pvBs] at h; cases h
  | x :: xs, us, h => by
    cases us with
    | nil => simp only [pvBs] at h; cases h
    | cons u us =>
      simp only [pvBs] at h
      obtain ⟨h1, h2⟩ := He.ba h
      obtain ⟨v, e1, e2⟩ := pvB_ok h1
      obtain ⟨vs, e3, e4⟩ := pvBs_ok h2
      exact ⟨v :: vs, .cons e1 e3, fun L Hc => ⟨v, vs, rfl, e2 L Hc, e4 L Hc⟩⟩
end
/-- the module's name x stands for p -/
def cstB (K : PySem.W.Frag) (x : Str) (p : PV) : Bool := match PySem.W.nsIn K mainGlobals x with
  | some (some u) => pvB K p u
  | _ => false
theorem cst_ok {K : PySem.W.Frag} {h : Heap} {mg : Str → Option Value} (X : K.In h) (G : h.Ns mainGlobals mg) {x : Str} {p : PV} (c : cstB K x p = true) : ∃ v u, mg x = some u ∧ RelV v u ∧ ∀ L Hc, RV K L Hc p v := by
  unfold cstB at c
  cases e : PySem.W.nsIn K mainGlobals x with
  | none => rw [e] at c; cases c
  | some o =>
    rw [e] at c
    cases o with
    | none => cases c
    | some u =>
      obtain ⟨v, h1, h2⟩ := pvB_ok (K := K) (p := p) (u := u) c
      exact ⟨v, u, PySem.W.mg_of X G e, h1, h2⟩
/-! ### a module's dict with text keys -/
/-- the dict at a, that the module's name x stands for -/
structure CDict (K : PySem.W.Frag) (w : World) (mg : Str → Option Value) (x : Str) (a : Addr) (tbl : List (Str × PV)) : Prop where
  g : mg x = some (.ref a)
  kd : ∃ es n, KDict K w a es n
  no : ∀ z, tbl.lookup z = none → PySem.W.nsIn K a z = some none
  yes : ∀ z p, tbl.lookup z = some p → ∃ v u, PySem.W.nsIn K a z = some (some u) ∧ RelV v u ∧ ∀ L Hc, RV K L Hc p v
def mKIn (neg : Bool) (tbl : List (Str × PV)) (f : Rho → Store → Res PV) : Rho → Store → Res PV := fun ρ S => (f ρ S).bind fun x S1 => match x with
  | .str z => .ok (.bl (if neg then !(tbl.lookup z).isSome else (tbl.lookup z).isSome)) S1
  | _ => .bad
def mKGet (tbl : List (Str × PV)) (f : Rho → Store → Res PV) : Rho → Store → Res PV := fun ρ S => (f ρ S).bind fun x S1 => match x with
  | .str z => (match tbl.lookup z with
    | some p => .ok p S1
    | none => .bad)
  | _ => .bad
def rKNot (K : PySem.W.Frag) (d : Addr) : R2 := fun x y H Q => ∃ (z : Str) (r : Option Value), x = .str z ∧ y = .ref d ∧ PySem.W.nsIn K d z = some r ∧ Q (.bl (!r.isSome)) H
section
variable {X : Cx} {G : Wd} {E : XK} (K : PySem.W.Frag) (W : World)
theorem kd_notIn {d : Addr} (h : ∃ es n, KDict X.K X.w d es n) : OpR X (compareOp .NotIn) (rKNot X.K d) := by
  obtain ⟨es, n, D⟩ := h
  exact op_notIn_kd D
theorem sim_kget {K : PySem.W.Frag} {W : World} {mg : Str → Option Value} {x : Str} {a : Addr} {tbl : List (Str × PV)} {te f} (D : CDict K W mg x a tbl) (he : ESim K mg G E te f) : ESim K mg G E (tOp (rIxD K W) (tC (.ref a)) te) (mKGet tbl f) := fun w ρ σ Q I q => by
  refine he w ρ σ _ I (Good.imp (Good.bind1 q) (fun y S1 q1 => ?_) fun _ _ _ h => h)
  intro w1 v e1 s1 k1 r1
  subst e1
  cases y <;> first | exact q1.elim | skip
  rename_i z
  have q1 : Good (match tbl.lookup z with | some p => Res.ok p w1.S | none => Res.bad) (PostV K w Q) (ExP K mg E w) := q1
  split at q1
  · rename_i p hl
    obtain ⟨v0, u, g1, g2, g3⟩ := D.yes z p hl
    obtain ⟨es, n, kd⟩ := D.kd
    exact ⟨a, z, v0, rfl, r1, ⟨es, n, u, kd.at_, kd.lit, g1, g2⟩, q1 w1 v0 rfl s1 k1 (g3 _ _)⟩
  · exact q1.elim
theorem fe_kget {mg : Str → Option Value} {x : Str} {a : Addr} {tbl : List (Str × PV)} {e : Expr} {te f} {px pos : Pos} (D : CDict K W mg x a tbl) (he : FE X G E e te f) (hK : X.K = K := by rfl) (hW : X.w = W := by rfl) (hM : X.mg = mg := by rfl) (hg : Gl X x := by rfl) (hd : (x == ("__debug__" : Str)) = false := by decide) (hp : PlainIx e := by exact fun _ _ => rfl) :
    FE X G E (.Subscript (.Name x px) e pos) (tOp (rIxD K W) (tC (.ref a)) te) (mKGet tbl f) := by
  subst hK hW hM
  exact ⟨pe_ix ix_kdict (pe_glob (v := .ref a) hg D.g rfl hd) he.pe hp, sim_kget D he.sim⟩
theorem sim_knot {K : PySem.W.Frag} {W : World} {mg : Str → Option Value} {x : Str} {a : Addr} {tbl : List (Str × PV)} {te f} (D : CDict K W mg x a tbl) (he : ESim K mg G E te f) : ESim K mg G E (tOp (rKNot K a) te (tC (.ref a))) (mKIn true tbl f) := fun w ρ σ Q I q => by
  refine he w ρ σ _ I (Good.imp (Good.bind1 q) (fun y S1 q1 => ?_) fun _ _ _ h => h)
  intro w1 v e1 s1 k1 r1
  subst e1
  cases y <;> first | exact q1.elim | skip
  rename_i z
  have q1 : PostV K w Q (.bl (!(tbl.lookup z).isSome)) w1.S := q1
  cases hl : tbl.lookup z with
  | none =>
    rw [hl] at q1
    exact ⟨z, none, r1, rfl, D.no z hl, q1 w1 _ rfl s1 k1 rfl⟩
  | some p =>
    rw [hl] at q1
    obtain ⟨v0, u, g1, g2, g3⟩ := D.yes z p hl
    exact ⟨z, some u, r1, rfl, g1, q1 w1 _ rfl s1 k1 rfl⟩
theorem fe_knot {mg : Str → Option Value} {x : Str} {a : Addr} {tbl : List (Str × PV)} {e : Expr} {te f} {px pos : Pos} (D : CDict K W mg x a tbl) (he : FE X G E e te f) (hK : X.K = K := by rfl) (hW : X.w = W := by rfl) (hM : X.mg = mg := by rfl) (hg : Gl X x := by rfl) (hd : (x == ("__debug__" : Str)) = false := by decide) (hb : behindInMarks .NotIn (.Name x px) = false := by first | exact nobehind _ (by decide) (by decide) | rfl) :
    FE X G E (.Compare e [.NotIn] [.Name x px] pos) (tOp (rKNot K a) te (tC (.ref a))) (mKIn true tbl f) := by
  subst hK hW hM
  exact ⟨pe_cmpR (kd_notIn D.kd) he.pe (pe_glob (v := .ref a) hg D.g rfl hd) hb, sim_knot D he.sim⟩
theorem ft_knot {mg : Str → Option Value} {x : Str} {a : Addr} {tbl : List (Str × PV)} {e : Expr} {te f} {px pos : Pos} (D : CDict K W mg x a tbl) (he : FE X G E e te f) (hK : X.K = K := by rfl) (hW : X.w = W := by rfl) (hM : X.mg = mg := by rfl) (hg : Gl X x := by rfl) (hd : (x == ("__debug__" : Str)) = false := by decide) (hb : behindInMarks .NotIn (.Name x px) = false := by first | exact nobehind _ (by decide) (by decide) | rfl) :
    FT X G E (.Compare e [.NotIn] [.Name x px] pos) (tTest (tOp (rKNot K a) te (tC (.ref a)))) (mB (mKIn true tbl f)) := by
  subst hK hW hM
  exact ⟨pt_cmpR (kd_notIn D.kd) he.pe (pe_glob (v := .ref a) hg D.g rfl hd) hb, sim_test (sim_knot D he.sim)⟩
end
/-- the head's facts of such a dict: its values, and that other keys are not in it -/
def dictB (K : PySem.W.Frag) (x : Str) (tbl : List (Str × PV)) : Bool := He.eqO (PySem.W.nsIn K mainGlobals x) (some (some (.ref (He.ga K x)))) && (tbl.all fun q => match PySem.W.nsIn K (He.ga K x) q.1 with
  | some (some u) => pvB K q.2 u
  | _ => false)

/-! ### unpacking of a tuple or a list -/
def gUn (n : Nat) (g : List PV → Rho → Store → Res Rho) : PV → Rho → Store → Res Rho
  | .tup xs, ρ, S => if xs.length = n then g xs ρ S else .bad
  | .lst xs, ρ, S => if xs.length = n then g xs ρ S else .bad
  | _, _, _ => .bad
def gUnR (K : PySem.W.Frag) (n : Nat) (t : TGs) : TG := fun v σ H Q => L2.gTup K n t v σ H Q ∨ L2.gLst K n t v σ H Q
theorem fg_un {X : Cx} {G : Wd} {E : XK} {es k t pos f} {n : Nat} (h : FGs X G E es t f) (p1 : PG X (.Tuple es k pos) (L2.gTup X.K n t)) (p2 : PG X (.Tuple es k pos) (L2.gLst X.K n t)) : FG X G E (.Tuple es k pos) (gUnR X.K n t) (gUn n f) :=
  ⟨⟨fun pins s σ H v u Q I r q => q.elim (p1.run pins s σ H v u Q I r) (p2.run pins s σ H v u Q I r)⟩, fun w ρ σ x v Q I r q => by
  cases x with
  | tup xs =>
    obtain ⟨a, vs, rfl, r1, r2⟩ := r
    obtain ⟨hn, q⟩ := good_if q
    exact .inl ⟨a, vs, rfl, hc_sqT r1, r2.len.trans hn, h.sim w ρ σ xs vs Q I r2 q⟩
  | lst xs =>
    obtain ⟨a, vs, rfl, r1, r2⟩ := r
    obtain ⟨hn, q⟩ := good_if q
    exact .inr ⟨a, vs, rfl, .inl (.inl (hc_lst r1)), r2.len.trans hn, h.sim w ρ σ xs vs Q I r2 q⟩
  | _ => exact q.elim⟩
/-! ### xs.index(y) -/
def idxOf (us : List V) (u : V) : Option Nat := us.findIdx? fun z => eqV z u
def gIndex : PV → List PV → Store → Res PV
  | .lst xs, [y], S => match xs.mapM toV, toV y with
    | some us, some u => match idxOf us u with
      | some j => .ok (.int j) S
      | none => .bad
    | _, _ => .bad
  | _, _, _ => .bad
def mIndex (f : Rho → Store → Res PV) (fa : Rho → Store → Res (List PV)) : Rho → Store → Res PV := fun ρ S => (f ρ S).bind fun x S1 => match x with
  | .lst xs => (fa ρ S1).bind fun ys S2 => gIndex (.lst xs) ys S2
  | _ => .bad
theorem idxOf_ok {u : V} : ∀ {us : List V} {j : Nat}, idxOf us u = some j → ∃ z, us[j]? = some z ∧ eqV z u = true ∧ ∀ (m : Nat) z', m < j → us[m]? = some z' → eqV z' u = false := fun {us j} h => by
  unfold idxOf at h
  obtain ⟨hj, h1, h2⟩ := List.findIdx?_eq_some_iff_getElem.mp h
  refine ⟨us[j], List.getElem?_eq_getElem hj, h1, fun m z' hm e => ?_⟩
  obtain ⟨hm2, rfl⟩ := List.getElem?_eq_some_iff.mp e
  simpa using h2 m hm
theorem sim_index {K : PySem.W.Frag} {mg : Str → Option Value} {G : Wd} {E : XK} {te ta f fa} (he : ESim K mg G E te f) (ha : ASim K mg G E ta fa) : ESim K mg G E (tBM K "list" (rIndex K) te ta) (mIndex f fa) := fun w ρ σ Q I q => by
  refine he w ρ σ _ I (Good.imp (Good.bind1 q) (fun y S1 q1 => ?_) fun _ _ _ h => h)
  intro w1 v e1 s1 k1 r1
  subst e1
  cases y <;> first | exact q1.elim | skip
  rename_i xs
  obtain ⟨a, vs, rfl, g1, g2⟩ := r1
  have I1 := I.step s1 k1
  refine ⟨.inl ⟨rfl, vs, .inl (.inl (hc_lst g1))⟩, ha w1 ρ σ _ I1 (Good.imp (Good.bind1 q1) (fun ys S2 q2 => ?_) fun _ _ _ h => h.step s1 I.ok k1)⟩
  intro w2 us e2 s2 k2 r2
  subst e2
  match ys, q2, r2 with
  | [y], q2, r2 =>
    obtain ⟨v, rfl, rv⟩ := vs1 r2
    have q2 : Good (match xs.mapM toV, toV y with
      | some us, some u => (match idxOf us u with
        | some j => Res.ok (PV.int j) w2.S
        | none => Res.bad)
      | _, _ => Res.bad) (PostV K w Q) (ExP K mg E w) := q2
    split at q2
    · rename_i us u h1 h2
      split at q2
      · rename_i j hj
        obtain ⟨z, z1, z2, z3⟩ := idxOf_ok hj
        have e3 := toVs_rv h1 (g2.mono s2.pre (s2.ext k1.sub))
        have e4 := toV_rv h2 rv
        subst e3 e4
        exact ⟨a, _, _, j, z, rfl, rfl, .inl (.inl (hc_lst (s2.ext k1.sub _ _ g1))), toV_flat h2, toVs_flat h1, z1, z2, z3, q2 w2 _ rfl (s1.tr s2 I.ok k1) k2 rfl⟩
      · exact q2.elim
    · exact q2.elim
  | [], q2, _ => exact q2.elim
  | _ :: _ :: _, q2, _ => exact q2.elim
section
variable {X : Cx} {G : Wd} {E : XK} (K : PySem.W.Frag)
theorem fe_index {o e : Expr} {to f ta fa} {ap cp : Pos} (ho : FE X G E o to f) (ha : FA X G E [e] ta fa) (hK : X.K = K := by rfl)
    (hbase : attributeBase o "index" X.env (eval o X.env) = eval o X.env := by rfl)
    (hfew : ((backTo cp (starEach [e] X.env)).all (fun x => !x.1) && (backToKw cp (keywordEach [] X.env)).all (fun x => x.1.isSome) && decide ([e].length + ([] : List Keyword).length + (if ([] : List Keyword).isEmpty then 0 else 1) < 30)) = true := by rfl)
    (hline : (ap.endLine == cp.line) = true := by rfl) (hs : starEach [e] X.env = (false, eval e X.env) :: starEach [] X.env := by rfl) :
    FE X G E (.Call (.Attribute o "index" ap) [e] [] cp) (tBM K "list" (rIndex K) to ta) (mIndex f fa) := by
  subst hK
  exact ⟨pe_bm PySem.F.plainAttrs_list PySem.F.slot_list_index PySem.F.type_list_index mt_index ho.pe ha.pe hbase hfew hline hs (by rfl), sim_index ho.sim ha.sim⟩
end
end Mir
set_option maxHeartbeats 4000000
/-! MirZ: pop, extend, a new list out of a tuple, calls without arguments, isinstance of several types, two except clauses. -/
namespace Mir
open PySem PySem.Spec PyProof.Rows L2
section
variable {X : Cx} {G : Wd} {E : XK}
/-- y = x.pop(), x a list of ours -/
def mPop (i j : Nat) : Rho → Store → Res Out := fun ρ S => match ρ[i]? with
  | some (.own (.lst xs)) => (match xs[xs.length - 1]? with
    | some y => .ok (.nx ((ρ.set i (.own (.lst xs.dropLast))).set j (.val y))) S
    | none => .bad)
  | _ => .bad
theorem RVs.dropLast {K L Hc} {xs : List PV} {vs : List V} (h : RVs K L Hc xs vs) : RVs K L Hc xs.dropLast vs.dropLast := by
  rw [List.dropLast_eq_take, List.dropLast_eq_take, h.len]
  exact h.take _
theorem sim_pop {K : PySem.W.Frag} {mg : Str → Option Value} {i j : Nat} : SSim K mg G E (tAsg (tBM0 K "list" rPop (tVar i)) (gName j)) (mPop i j) := fun w ρ σ D I q => by
  unfold mPop at q
  split at q
  · rename_i xs hi
    split at q
    · rename_i y hy
      obtain ⟨p, a, b, c, d, vs, r1, r2⟩ := I.own i _ hi
      obtain ⟨v, hv, rv⟩ := r2.get hy
      refine ⟨.ref p, a, .inl ⟨rfl, vs, .inl (.inl r1)⟩, p, vs, v, rfl, rfl, r1, by rw [r2.len]; exact hv, ?_⟩
      have I2 := I.wrOwn (o := .lst xs.dropLast) (ho := .lst vs.dropLast) hi a b c d ⟨_, rfl, r2.dropLast⟩
      have rv2 : RV K (w.wr p (.lst vs.dropLast)).L (w.wr p (.lst vs.dropLast)).hc y v := by rw [wr_hc b]; exact rv
      exact q (w.wr p (.lst vs.dropLast)) _ rfl (wr_v b) (I2.set rv2)
    · exact q.elim
  · exact q.elim
theorem fs_pop {i j : Nat} {x y : Str} {px py pa pc pos : Pos} (hx : PE X (.Name x px) (tVar i)) (nd : X.N.Nodup) (hj : X.N[j]? = some y) (hl : Loc X.env.scope y)
    (hbase : attributeBase (.Name x px) "pop" X.env (eval (.Name x px) X.env) = eval (.Name x px) X.env := by rfl) (hline : (pa.endLine == pc.line) = true := by rfl)
    (hs : swapsWith (.Call (.Attribute (.Name x px) "pop" pa) [] [] pc) (some (.Name y py)) pos.line X.env = pure false := by rfl) (hf : X.fn y = true ∨ X.env.scope.names.lookup y = some .local := by first | exact .inl rfl | exact .inr rfl) :
    FS X G E (.Assign [.Name y py] (.Call (.Attribute (.Name x px) "pop" pa) [] [] pc) pos) (tAsg (tBM0 X.K "list" rPop (tVar i)) (gName j)) (mPop i j) :=
  ⟨ps_set nd hj hl (pe_bm0 PySem.F.plainAttrs_list PySem.F.slot_list_pop PySem.F.type_list_pop mt_pop hx hbase hline) hs hf, sim_pop⟩
/-- x.extend(e), x a list of ours, e a list -/
def mExtend (i : Nat) (f : Rho → Store → Res PV) : Rho → Store → Res Out := fun ρ S => match ρ[i]? with
  | some (.own _) => (f ρ S).bind fun y S1 => match ρ[i]?, y with
    | some (.own (.lst xs)), .lst ys => if xs.length + ys.length ≤ sizeM then .ok (.nx (ρ.set i (.own (.lst (xs ++ ys))))) S1 else .bad
    | _, _ => .bad
  | _ => .bad
theorem sim_extend {K : PySem.W.Frag} {mg : Str → Option Value} {i : Nat} {te f} (he : ESim K mg G E te f) : SSim K mg G E (tDrop (tBM K "list" rExtend (tVar i) (tCons te tNil))) (mExtend i f) := fun w ρ σ D I q => by
  unfold mExtend at q
  split at q
  · rename_i o hi
    obtain ⟨p, a, b, c, d, r⟩ := I.own i o hi
    cases o with
    | lst xs =>
      obtain ⟨vs, r1, r2⟩ := r
      refine ⟨.ref p, a, .inl ⟨rfl, vs, .inl (.inl r1)⟩, he w ρ σ _ I (Good.imp (Good.bind1 q) (fun y S1 h1 => ?_) fun _ _ _ h => h.step I.stp I.gok I.ok)⟩
      intro w1 v e1 s1 k1 rv
      rw [hi] at h1
      cases y <;> first | exact h1.elim | skip
      rename_i ys
      obtain ⟨hsz, h1⟩ := good_if h1
      obtain ⟨b2, us, rfl, g1, g2⟩ := rv
      have I1 := I.step s1 k1
      have gp : w1.H p = some (.lst vs) := s1.keep p _ r1 c
      have hO := s1.omono p b
      have hL : p ∉ w1.L := fun z => by
        rcases s1.lset p z with y | y
        · exact c y
        · rw [r1] at y; cases y
      refine ⟨p, b2, vs, us, rfl, rfl, gp, hc_lst g1, by rw [r2.len, g2.len]; exact sizeM_le hsz, ?_⟩
      exact h1 (w1.wr p (.lst (vs ++ us))) σ e1 ((s1.v I.ok.sub).trans (wr_v hO)) (I1.wrOwn hi a hO hL d ⟨_, rfl, (r2.mono s1.pre (s1.ext I.ok.sub)).append g2⟩)
  · exact q.elim
theorem fs_extend {i : Nat} {x : Str} {px pa pc pos e te f} (hx : PE X (.Name x px) (tVar i)) (he : FE X G E e te f)
    (hbase : attributeBase (.Name x px) "extend" X.env (eval (.Name x px) X.env) = eval (.Name x px) X.env := by rfl)
    (hfew : ((backTo pc (starEach [e] X.env)).all (fun x => !x.1) && (backToKw pc (keywordEach [] X.env)).all (fun x => x.1.isSome) && decide ([e].length + ([] : List Keyword).length + (if ([] : List Keyword).isEmpty then 0 else 1) < 30)) = true := by rfl)
    (hline : (pa.endLine == pc.line) = true := by rfl) (hs : starEach [e] X.env = (false, eval e X.env) :: starEach [] X.env := by rfl) (hsw : swapsWith (.Call (.Attribute (.Name x px) "extend" pa) [e] [] pc) none pos.line X.env = pure false := by rfl) :
    FS X G E (.Expr (.Call (.Attribute (.Name x px) "extend" pa) [e] [] pc) pos) (tDrop (tBM X.K "list" rExtend (tVar i) (tCons te tNil))) (mExtend i f) :=
  ⟨ps_expr (pe_bm PySem.F.plainAttrs_list PySem.F.slot_list_extend PySem.F.type_list_extend mt_extend hx (pa_cons he.pe pa_nil hs) hbase hfew hline hs (by rfl)) hsw, sim_extend he.sim⟩
/-- a, b = (a new list, e): the list is ours -/
def mUnp (i j : Nat) (f : Rho → Store → Res SO) (g : Rho → Store → Res PV) : Rho → Store → Res Out := fun ρ S => (f ρ S).bind fun o S1 => (g ρ S1).bind fun y S2 => .ok (.nx ((ρ.set i (.own o)).set j (.val y))) S2
theorem sim_unp {K : PySem.W.Frag} {mg : Str → Option Value} {i j : Nat} {t te f g} (hf : NSim K mg G E t f) (hg : ESim K mg G E te g) : SSim K mg G E (tPar i j (tCons t (tCons te tNil))) (mUnp i j f g) := fun w ρ σ D I q => by
  refine hf w ρ σ _ I (Good.imp (Good.bind1 q) (fun o S1 h1 => ?_) fun _ _ _ h => h.step I.stp I.gok I.ok)
  intro w1 p e1 s1 k1 n1 o1 l1 r1
  subst e1
  have I1 := I.step s1 k1
  refine hg w1 ρ σ _ I1 (Good.imp (Good.bind1 h1) (fun y S2 h2 => ?_) fun _ _ _ h => h.step I1.stp I1.gok I1.ok)
  intro w2 v e2 s2 k2 r2
  subst e2
  have s12 := s1.tr s2 I.ok k1
  obtain ⟨u, hu⟩ := k1.dom p o1
  have kp2 := s2.keep p u hu l1
  have hL2 : p ∉ w2.L := fun z => by
    rcases s2.lset p z with y | y
    · exact l1 y
    · rw [hu] at y; cases y
  have r1' : SOk K w2.L w2.hc (w2.H p) o := by
    rw [kp2]
    rw [hu] at r1
    exact r1.mono s2.pre (s2.ext k1.sub)
  have J := FI.setOwn (i := i) I s12 k2 n1 (s2.omono p o1) hL2 r1'
  exact ⟨.ref p, v, rfl, h2 w2 _ rfl (s12.v I.ok.sub) (J.set r2)⟩
/-- a call without arguments -/
theorem ke_call0 {P : Program} {W : World} {K : PySem.W.Frag} {mg : Str → Option Value} {base : Heap} {k : Nat} {f : Addr} {fd : FuncData} {ps : List Str} {n : Nat} {m : List PV → Store → Res PV} {x : Str} {p pos} (F : FnG P W K mg base k f fd ps (spM K mg n m)) (hg0 : X.A.guards = some []) (hr : Room k X.A) (hm : mg x = some (.ref f)) (hk : PySem.W.keepIn K (.ref f) = true)
    (hb : Binds K fd ps []) (hx : Passes (L2.CX P W) X E) (c : CtxIs X P W K mg base := by exact ⟨rfl, rfl, rfl, rfl, rfl⟩) (hg : Gl X x := by rfl) (hdb : (x == ("__debug__" : Str)) = false := by decide) :
    FE X G E (.Call (.Name x p) [] [] pos) (tCall (spM K mg n m) [] E tNil) (mCall n m [] mNil) := by
  obtain ⟨rfl, rfl, rfl, rfl, rfl⟩ := c
  exact ⟨peG_call0 F hg0 hr hg hm hk hb .nil hx hdb, sim_call (fun _ _ => rfl) (fun w ρ σ Q I h => h w [] rfl (WStep.refl I.ok.sub) I.ok rfl)⟩
end
/-! ### isinstance(x, (A, B)), built-in types -/
def gIsiT (Ts : List String) (x : PV) (S : Store) : Res PV := match tyP x with
  | some a => match Ts.mapM (fun T => kitB a T) with
    | some bs => .ok (.bl (bs.any id)) S
    | none => .bad
  | none => .bad
theorem kitAny_of {K : PySem.W.Frag} {a : String} : ∀ {Ts : List String} {bs : List Bool}, Ts.mapM (fun T => kitB a T) = some bs → PySem.W.kitAny K (.type a) (Ts.map Value.type) = some (bs.any id)
  | [], bs, h => by
    simp at h; subst h
    exact kitAny_nil
  | T :: Ts, bs, h => by
    rw [List.mapM_cons] at h
    cases e1 : kitB a T with
    | none => rw [e1] at h; simp at h
    | some b =>
      rw [e1] at h
      cases e2 : Ts.mapM (fun T => kitB a T) with
      | none => rw [e2] at h; simp at h
      | some r =>
        rw [e2] at h
        simp at h
        subst h
        refine kitAny_cons (kit_ty e1) (fun hb => ?_) (fun hb => by rw [hb]; rfl)
        rw [kitAny_of e2, hb]
        rfl
def mIsiT (Ts : List String) (f : Rho → Store → Res PV) : Rho → Store → Res PV := fun ρ S => (f ρ S).bind fun x S1 => gIsiT Ts x S1
/-- the types of a tuple in the text -/
inductive TyNs (X : Cx) : List Expr → List String → Prop
  | nil : TyNs X [] []
  | cons {Tn : Str} {T : String} {pT : Pos} {es : List Expr} {Ts : List String} (pe : PE X (.Name Tn pT) (tC (.ty T))) (r : TyNs X es Ts) (hs : starEach (.Name Tn pT :: es) X.env = (false, eval (.Name Tn pT) X.env) :: starEach es X.env := by rfl) : TyNs X (.Name Tn pT :: es) (T :: Ts)
theorem TyNs.pa {X es Ts} (h : TyNs X es Ts) : PA X es (tCs (Ts.map V.ty)) := by
  induction h with
  | nil => exact pa_nil
  | cons pe r hs ih => exact pa_cons pe ih hs
theorem tys_pr (Ts : List String) : Paired ClsV (Ts.map V.ty) (Ts.map Value.type) := by
  induction Ts with
  | nil => exact .nil
  | cons T Ts ih => exact .cons (.ty T) ih
section
variable {X : Cx} {G : Wd} {E : XK} (K : PySem.W.Frag)
theorem fe_isiT {Ts : List String} {p pT pos e es kk te f} (hm : X.mg "isinstance" = none) (hT : TyNs X es Ts) (he : FE X G E e te f) (hK : X.K = K := by rfl) (hl : Ts.length ≤ 1000 := by decide) (hg : Gl X "isinstance" := by rfl)
    (hs : starEach [e, .Tuple es kk pT] X.env = (false, eval e X.env) :: starEach [.Tuple es kk pT] X.env := by rfl) (hpl : (backTo pos (starEach [.Tuple es kk pT] X.env)).any (·.1) = false := by rfl) (hs2 : starEach [.Tuple es kk pT] X.env = (false, eval (.Tuple es kk pT) X.env) :: starEach [] X.env := by rfl) :
    FE X G E (.Call (.Name "isinstance" p) [e, .Tuple es kk pT] [] pos) (tCB (rIsiT K) (tCons te (tCons (tTup (tCs (Ts.map V.ty))) tNil))) (mIsiT Ts f) := by
  subst hK
  exact ⟨pe_callB call_isiT hg hm (by decide +kernel) (pa_cons he.pe (pa_cons (pe_tup hT.pa) pa_nil hs2) hs) (by decide) (by decide) hs hpl, fun w ρ σ Q I q => by
    refine he.sim w ρ σ _ I (Good.imp (Good.bind1 q) (fun x S1 h1 => ?_) fun _ _ _ h => h)
    intro w1 v e1 s1 k1 r1
    subst e1
    unfold gIsiT at h1
    split at h1
    · rename_i a ea
      split at h1
      · rename_i bs eb
        refine tCs_ok ⟨by rw [List.length_map]; exact Nat.le_trans hl (by decide), fun t ht => ?_⟩
        exact ⟨v, t, _, .type a, _, _, rfl, upd_same, tys_pr Ts, tyx_of (fun a o h => by rw [upd_ne (ne_of_none (cut_some h).2 ht)]; exact (cut_some h).2) ea r1, kitAny_of eb, h1 (w1.put t (.tup (Ts.map V.ty))) (.bl _) rfl (s1.tr (put_step k1 ht) I.ok k1) (put_ok k1 ht) rfl⟩
      · exact h1.elim
    · exact h1.elim⟩
end
/-! ### several except clauses, all with the same name (slot i) -/
def endA (i : Nat) (D : Ends) : Ends := { nx := fun σ' H' => D.nx (σ'.set i none) H', rt := D.rt, bk := fun σ' H' => D.bk (σ'.set i none) H', ct := fun σ' H' => D.ct (σ'.set i none) H' }
def wL (K : PySem.W.Frag) (i : Nat) (D : Ends) : List (Value × (Addr → Value → Option Addr → TS)) → WX
  | [] => fun _ _ _ _ => False
  | (c, ts) :: r => fun cls d σ H => ∃ b, PySem.W.exmOne K cls c = some b ∧ (b = true → ∀ a, H a = none → ts a cls d (endA i D) (σ.set i (some (.ref a))) H) ∧ (b = false → wL K i D r cls d σ H)
inductive HdsA (X : Cx) (n : Str) : List ExceptHandler → List (Value × (Addr → Value → Option Addr → TS)) → Prop
  | nil : HdsA X n [] []
  | cons {x : Str} {c : Value} {ts : Addr → Value → Option Addr → TS} {b₀ : Stmt} {suite : List Stmt} {np pos' : Pos} {hds : List ExceptHandler} {l : List (Value × (Addr → Value → Option Addr → TS))} (hc : Names X x c)
      (su : ∀ (a : Addr) (oe : Obj) (cls : Value) (d : Option Addr) (pn : List (Addr × Obj)), Zc cls d oe → (∃ vs, oe.data = .fields vs) → PSs (X.suite a ((a, oe) :: pn)) (b₀ :: suite) (ts a cls d)) (r : HdsA X n hds l) :
      HdsA X n (.ExceptHandler (some (.Name x np)) (some n) (b₀ :: suite) pos' :: hds) ((c, ts) :: l)
section
variable {X : Cx} {n : Str} {i : Nat} {body : List Stmt} {h₀ : ExceptHandler} {hds : List ExceptHandler} {l : List (Value × (Addr → Value → Option Addr → TS))} {pos : Pos} {tb : WX → TS}
/-- one clause after the other, with the exception at e0 in hand -/
theorem clauses_go {pins : List (Addr × Obj)} {σ1 : L2.St} {H1 : Hp} {D : Ends} {e0 : Addr} {B : Heap} {cls : Value} {d : Option Addr} {sa sb : Shared} {hh : Heap} (ok : X.Ok) (hfl : X.env.frame = some X.env.locals) (nd : X.N.Nodup) (hn : X.N[i]? = some n) (loc : X.env.kindOf n = some .local)
    (J0 : Inv X pins σ1 H1 sa) (older : ∀ (b : Addr) (o : Obj), sa.heap.get? b = some o → ¬b ∈ frs X.stack → B.get? b = some o) (hst : X.stack = X.env :: X.outer) (upS : sa.heap.UpToSlots hh) (free : H1 e0 = none) (os : sb.os = sa.os) (ag : AllBare sb.gens) (fz : HandSPX.FlyingZ B (X.env :: X.outer) e0 (Zc cls d) hh) :
    ∀ {hs' : List ExceptHandler} {l' : List (Value × (Addr → Value → Option Addr → TS))}, HdsA X n hs' l' → wL X.K i D l' cls d σ1 H1 → wpAny (model X.prog X.w) X.A (handleBy (.ref e0) X.env hs') (SP X pins D) X.xe { sb with heap := hh } := by
  have JL : Inv X pins σ1 H1 { sb with heap := hh } := J0.landed older fz.1 upS os ag
  obtain ⟨ob, fvs, g1, g2, g3⟩ := fz.there
  have far : ∀ {k : Heap} {o : Obj} {vs : Array Value}, k.FunFrames B (X.env :: X.outer) → k.get? e0 = some o → o.data = .fields vs → e0 ∉ frs (X.env :: X.outer) := by
    intro k o vs ff ge de hm
    obtain ⟨_, o2, ge2, hnf⟩ := ff.mem hm
    rw [ge] at ge2
    cases ge2
    exact hnf _ de
  have nf := far fz.2.2.1 g1 g3
  have neL : e0 ≠ X.env.locals := by
    intro z
    exact nf (List.mem_filterMap.mpr ⟨X.env, List.mem_cons_self, by rw [hfl, z]⟩)
  have neF : e0 ∉ X.fs := by
    intro hm
    obtain ⟨en, hen, qe⟩ := List.mem_filterMap.mp hm
    exact nf (List.mem_filterMap.mpr ⟨en, List.mem_cons_of_mem _ hen, qe⟩)
  have SU := JL.suite g1 g3 free neL neF
  intro hs' l' hk
  induction hk with
  | nil => intro w; exact w.elim
  | @cons x c ts b₀ su np ps hds2 l2 nam hsu r ih =>
    rintro ⟨b, mt, yes, no⟩
    refine wpAny_handleBy_cons (codeAny_handlers_test ?_) (by intro q; cases q)
    have ty : PySem.W.Looks (model X.prog X.w) hh (typeOf (.ref e0)) cls := by
      intro A Q E s k q
      exact wpAny_typeOf_ref (k _ _ g1) (by rw [g2.1]; exact q)
    have mtch := PySem.W.exm_one (M := model X.prog X.w) JL.kIn ty mt
    have rd : ∀ {Q : Value → Shared → Prop} {E : Value → Shared → Prop}, Q c { sb with heap := hh } → wpAny (model X.prog X.w) (X.A.mark (some (.ref e0))) (eval (.Name x np) X.env) Q E { sb with heap := hh } := by
      intro Q E q
      obtain ⟨gx, dbg, hm | ⟨hm, hv, nn⟩⟩ := nam
      · exact ld_glob (X := X.suite e0 ((e0, ob) :: (X.pn ++ pins))) SU gx hm q dbg
      · exact ld_blt (X := X.suite e0 ((e0, ob) :: (X.pn ++ pins))) SU gx hm hv q nn dbg
    refine rd (mtch.here ?_)
    cases b with
    | false => exact ih (no rfl)
    | true =>
      refine codeAny_handlers_suite_as (HandSPX.lands_againZ fz fun h5 fz5 up5 => ?_)
      have J5 : Inv X pins σ1 H1 { sb with heap := h5 } := J0.landed older fz5.1 (upS.trans up5) os ag
      obtain ⟨o5, v5, k1, k2, k3⟩ := fz5.there
      have S5 := J5.suite k1 k3 free neL neF
      refine store_ok (X := X.suite e0 ((e0, o5) :: (X.pn ++ pins))) (v := .ref e0) S5 nd hn (.inl loc) rfl (fun t5 T5 => ?_) (.inr loc)
      refine wpAny_mono ((hsu e0 o5 cls d (X.pn ++ pins) k2 ⟨_, k3⟩).run [] t5 _ H1 _ T5 (yes rfl e0 free)) (fun f t6 hp => ?_) (fun _ _ z => False.elim z)
      have fin : ∀ {σ6 : L2.St} {H6 : Hp} {Q : Shared → Prop}, Inv (X.suite e0 ((e0, o5) :: (X.pn ++ pins))) [] σ6 H6 t6 → (∀ s7, Inv X pins (σ6.set i none) H6 s7 → Q s7) →
          wpAny (model X.prog X.w) X.A (do bindName X.env n .none; unbindBehindTheSuite X.env n ps) (fun _ s7 => Q s7) X.xe t6 := by
        intro σ6 H6 Q T6 hq
        exact gone_ok (T6.unsuite ok) nd hn loc hq
      cases f with
      | ret u =>
        obtain ⟨v6, σ6, H6, T6, r6, q6⟩ := hp
        exact fin T6 (fun s7 J7 => ⟨_, _, _, J7, r6, q6⟩)
      | next =>
        obtain ⟨σ6, H6, T6, q6⟩ := hp
        exact fin T6 (fun s7 J7 => ⟨_, _, J7, q6⟩)
      | brk =>
        obtain ⟨σ6, H6, T6, q6⟩ := hp
        exact fin T6 (fun s7 J7 => ⟨_, _, J7, q6⟩)
      | cont =>
        obtain ⟨σ6, H6, T6, q6⟩ := hp
        exact fin T6 (fun s7 J7 => ⟨_, _, J7, q6⟩)
theorem ps_tryL (hst : X.stack = X.env :: X.outer) (hfl : X.env.frame = some X.env.locals) (nd : X.N.Nodup) (hn : X.N[i]? = some n) (loc : X.env.kindOf n = some .local)
    (bd : ∀ (W : WX) (pn : List (Addr × Obj)) (xe : Value → Shared → Prop), Takes (X.tr pn xe) W → PSs (X.tr pn xe) body (tb W)) (hh : HdsA X n (h₀ :: hds) l) : PS X (.Try body (h₀ :: hds) [] [] pos) (fun D σ H => tb (wL X.K i D l) D σ H) := by
  refine ⟨fun pins s σ H D I h => wpAny_Try_except ?_⟩
  have ok := I.ok
  have hfr : X.A.frames = some (X.env :: X.outer) := by rw [ok.frames, hst]
  have hb := bd (wL X.K i D l) (X.pn ++ pins) (fun e s₁ => wpAny (model X.prog X.w) X.A (noteFrame e X.env) (fun _ s₂ => wpAny (model X.prog X.w) X.A (setFlight e none) (fun _ s₃ => wpAny (model X.prog X.w) X.A (handleBy e X.env (h₀ :: hds)) (SP X pins D) X.xe s₃) X.xe s₂) X.xe s₁)
  refine wpAny_mono ((hb fun u s' xx => ?_).run [] s σ H D (I.toTry _) h) (fun f s1 hp => ?_) (fun e s1 he => he)
  · obtain ⟨e0, B, sI, pins', σ1, H1, cls, d, rfl, J', older, up, sky, free, os, ag, w⟩ := xx
    have J : Inv X pins σ1 H1 sI := J'.ofTry ok
    have sky2 : Sky B (X.env :: X.outer) e0 (Zc cls d) X.env.locals s'.heap := by rw [← hst]; exact sky
    show wpAny (model X.prog X.w) X.A (noteFrame (.ref e0) X.env) _ _ _
    exact Sky.land Zc.steady hfr hfl sky2 (fun h3 fz up3 => clauses_go ok hfl nd hn loc J older hst (up.trans up3) free os ag fz hh w)
  · cases f with
    | ret u =>
      obtain ⟨v, σ', H', J', r, q⟩ := hp
      exact ⟨v, σ', H', J'.ofTry ok, r, q⟩
    | next =>
      obtain ⟨σ', H', J', q⟩ := hp
      exact wpAny_execs_nil ⟨σ', H', J'.ofTry ok, q⟩
    | brk =>
      obtain ⟨σ', H', J', q⟩ := hp
      exact ⟨σ', H', J'.ofTry ok, q⟩
    | cont =>
      obtain ⟨σ', H', J', q⟩ := hp
      exact ⟨σ', H', J'.ofTry ok, q⟩
end
/-! ### .. with their mirrors -/
abbrev Hd := List (Str × Bool) × (Rho → Store → Res Out)
def mHds (i n : Nat) : List Hd → Str → List (Str × PV) → Store → Res Out
  | [], _, _, _ => .bad
  | (tbl, fs) :: r, c, fv, S => match tbl.lookup c with
    | some true => (match fs ((List.replicate n Slot.none).set i (.pin c fv)) S with
      | .ok (.rt x) S2 => .ok (.rt x) S2
      | _ => .bad)
    | some false => mHds i n r c fv S
    | none => .bad
def mTryL (i n : Nat) (fb : Rho → Store → Res Out) (hs : List Hd) : Rho → Store → Res Out := fun ρ S => match fb ρ S with
  | .exc c fv S1 => mHds i n hs c fv S1
  | r => r
inductive HdsF (X : Cx) (nm : Str) : List ExceptHandler → List (Value × (Addr → Value → Option Addr → TS)) → List Hd → Prop
  | nil : HdsF X nm [] [] []
  | cons {x : Str} {cv : Value} {ts : Addr → Value → Option Addr → TS} {b₀ : Stmt} {suite : List Stmt} {np pos' : Pos} {hds : List ExceptHandler} {l : List (Value × (Addr → Value → Option Addr → TS))} {tbl : List (Str × Bool)} {fs : Rho → Store → Res Out} {r : List Hd} (hc : Names X x cv)
      (ht : ∀ p ∈ tbl, ∃ C, X.mg p.1 = some (.ref C) ∧ PySem.W.exmOne X.K (.ref C) cv = some p.2)
      (hsu : ∀ (G : Wd) (a : Addr) (oe : Obj) (cls : Value) (d : Option Addr) (pn : List (Addr × Obj)), Zc cls d oe → (∃ vs, oe.data = .fields vs) → PinOk X.mg G a cls d → FSs (X.suite a ((a, oe) :: pn)) G (fun _ _ _ => False) (b₀ :: suite) (ts a cls d) fs)
      (hr : HdsF X nm hds l r) : HdsF X nm (.ExceptHandler (some (.Name x np)) (some nm) (b₀ :: suite) pos' :: hds) ((cv, ts) :: l) ((tbl, fs) :: r)
theorem HdsF.a {X nm hds l r} (h : HdsF X nm hds l r) : HdsA X nm hds l := by
  induction h with
  | nil => exact .nil
  | cons hc ht hsu hr ih =>
    refine .cons hc (fun a oe cls d pn hz hf => ?_) ih
    obtain ⟨G1, h1⟩ := pinOk_some _ a cls d
    exact (hsu G1 a oe cls d pn hz hf h1).pe
theorem HdsF.sim {X : Cx} {nm : Str} {hds l r} {G w' : Wd} {i n : Nat} {c : Str} {fv : List (Str × PV)} {C d : Addr} {vs : List (Str × V)} {D : Ends} {σ' : L2.St} {ex : Str → List (Str × PV) → Store → Prop} (h : HdsF X nm hds l r) (gok0 : WOk X.K G) (sG : WStep G w') (k' : WOk X.K w') (hm : X.mg c = some (.ref C)) (hd : w'.hc d = some (.xd vs)) (rf : RF X.K w'.L w'.hc fv vs) (hl' : σ'.length = n) (hnl : i < n)
    (q : Good (mHds i n r c fv w'.S) (fun o S => match o with | .rt x => PostX X.K G D.rt x S | _ => False) ex) : wL X.K i D l (.ref C) (some d) σ' w'.H := by
  induction h with
  | nil => exact q.elim
  | @cons x cv ts b₀ suite np pos' hds l tbl fs r hc ht hsu hr ih =>
    have q : Good (match tbl.lookup c with
      | some true => (match fs ((List.replicate n Slot.none).set i (.pin c fv)) w'.S with
        | .ok (.rt x) S2 => Res.ok (Out.rt x) S2
        | _ => Res.bad)
      | some false => mHds i n r c fv w'.S
      | none => .bad) (fun o S => match o with | .rt x => PostX X.K G D.rt x S | _ => False) ex := q
    cases hb : tbl.lookup c with
    | none => rw [hb] at q; exact q.elim
    | some b =>
      rw [hb] at q
      obtain ⟨C', m1, m2⟩ := ht _ (lookup_mem hb)
      have : C' = C := by have m1 : X.mg c = _ := m1; rw [hm] at m1; cases m1; rfl
      subst this
      cases b with
      | false => exact ⟨false, m2, (fun z => nomatch z), fun _ => ih q⟩
      | true =>
        refine ⟨true, m2, fun _ a ha => ?_, fun z => nomatch z⟩
        let Gp : Wd := { G with pin := some (a, d, fun c' => X.mg c' = some (.ref C')) }
        have stp : WStep Gp w' := ⟨sG.pre, sG.keep, sG.omono, sG.oset, sG.lset⟩
        have gok : WOk X.K Gp := ⟨gok0.sub, gok0.nd, gok0.len, gok0.st, gok0.dom⟩
        have pk : PinOk X.mg Gp a (.ref C') (some d) := ⟨d, _, rfl, fun c' h => ⟨rfl, C', rfl, h⟩⟩
        have none_of : ∀ {j : Nat} {s : Slot}, (List.replicate n Slot.none)[j]? = some s → s = Slot.none := fun h => (List.mem_replicate.mp (List.mem_of_getElem? h)).2
        have J : FI X.K Gp w' ((List.replicate n Slot.none).set i (.pin c fv)) (σ'.set i (some (.ref a))) := by
          refine ⟨gok, k', stp, by simp [hl'], fun j y h => ?_, fun j o h => ?_, fun j k oj ok' n h1 h2 => ?_, fun j c2 fs2 h => ?_⟩
          · rcases set_get h with ⟨_, e⟩ | ⟨_, h⟩
            · cases e
            · cases none_of h
          · rcases set_get h with ⟨_, e⟩ | ⟨_, h⟩
            · cases e
            · cases none_of h
          · rcases set_get h1 with ⟨_, e⟩ | ⟨_, h⟩
            · cases e
            · cases none_of h
          · rcases set_get h with ⟨rfl, e⟩ | ⟨_, h⟩
            · cases e
              exact ⟨a, d, _, vs, rfl, by rw [List.getElem?_set_self (by rw [hl']; exact hnl)], hm, hd, rf⟩
            · cases none_of h
        refine (hsu Gp a ⟨.ref C', some d, .fields #[], #[]⟩ (.ref C') (some d) [] ⟨rfl, rfl⟩ ⟨_, rfl⟩ pk).sim w' _ _ _ J ?_
        have q : Good (match fs ((List.replicate n Slot.none).set i (.pin c fv)) w'.S with
          | .ok (.rt x) S2 => Res.ok (Out.rt x) S2
          | _ => Res.bad) (fun o S => match o with | .rt x => PostX X.K G D.rt x S | _ => False) ex := q
        cases es : fs ((List.replicate n Slot.none).set i (.pin c fv)) w'.S with
        | exc c2 f2 S2 => rw [es] at q; exact q.elim
        | bad => rw [es] at q; exact q.elim
        | ok o S2 =>
          rw [es] at q
          cases o with
          | nx ρ2 => exact q.elim
          | bk ρ2 => exact q.elim
          | ct ρ2 => exact q.elim
          | rt y =>
            intro w2 v e2 s2 k2 r2
            exact q w2 v e2 ⟨s2.pre, s2.keep, s2.omono, s2.oset, s2.lset⟩ k2 r2
theorem mHds_rt {i n : Nat} {c : Str} {fv : List (Str × PV)} {S : Store} : ∀ {r : List Hd}, (∃ x S2, mHds i n r c fv S = Res.ok (Out.rt x) S2) ∨ mHds i n r c fv S = .bad
  | [] => .inr rfl
  | (tbl, fs) :: r => by
    unfold mHds
    split
    · split
      · exact .inl ⟨_, _, rfl⟩
      · exact .inr rfl
    · exact mHds_rt
    · exact .inr rfl
theorem fs_tryL {X : Cx} {G : Wd} {E : XK} {nm : Str} {i n : Nat} {body : List Stmt} {h₀ : ExceptHandler} {hds : List ExceptHandler} {l : List (Value × (Addr → Value → Option Addr → TS))} {r : List Hd} {pos : Pos} {tb : WX → TS} {fb} (hs : X.stack = X.env :: X.outer) (hf : X.env.frame = some X.env.locals) (hN : X.N.Nodup) (hi : X.N[i]? = some nm) (hln : X.env.kindOf nm = some .local) (hn : X.N.length = n)
    (hb : ∀ (W : WX) (pn : List (Addr × Obj)) (xe : Value → Shared → Prop), Takes (X.tr pn xe) (fun c d _ H => ExAll W n c d H) → FSs (X.tr pn xe) G (ExAll W n) body (tb W) fb) (hh : HdsF X nm (h₀ :: hds) l r) :
    FS X G E (.Try body (h₀ :: hds) [] [] pos) (fun D σ H => tb (wL X.K i D l) D σ H) (mTryL i n fb r) :=
  ⟨ps_tryL hs hf hN hi hln (fun W pn xe tk => (hb W pn xe (hn ▸ takes_all (X := X.tr pn xe) tk)).pe) hh.a, fun w ρ σ D I q => by
  refine (hb (wL X.K i D l) [] (fun _ _ => True) (fun _ _ _ => trivial)).sim w ρ σ D I ?_
  unfold mTryL at q
  cases er : fb ρ w.S with
  | ok o S1 => rw [er] at q; exact q
  | bad => rw [er] at q; exact q
  | exc c fv S1 =>
    rw [er] at q
    intro w' C d vs eS sG k' hm hd rf σ' hl'
    subst eS
    refine hh.sim (ex := ExP X.K X.mg E G) I.gok sG k' hm hd rf hl' (by rw [← hn]; exact (List.getElem?_eq_some_iff.mp hi).1) ?_
    have q : Good (mHds i n r c fv w'.S) (PostS X.K G w D) (ExP X.K X.mg E G) := q
    rcases mHds_rt (i := i) (n := n) (c := c) (fv := fv) (S := w'.S) (r := r) with ⟨x, S2, e⟩ | e
    · rw [e] at q ⊢
      exact q
    · rw [e] at q
      exact q.elim⟩
end Mir
set_option maxHeartbeats 4000000
/-! MirW: short forms, heads with tables and classes. -/
namespace Mir
open PySem PySem.Spec PyProof.Rows L2
theorem hu_of2 {k : Nat} {A : Around} (hr : Room k A) : A.units + 200 < cLine := by have := hr.un; omega
section
variable {X : Cx} {G : Wd} {E : XK} (K : PySem.W.Frag)
theorem call_reprU (hu : X.A.units + 200 < cLine) (hg : X.A.guards = some []) : CallR X (.builtin "repr") (rRepr X.K) := by
  intro pins s σ H xs us Q I r ⟨x, d, ex, dp, hs, hd, hz, hdep, q⟩
  subst ex
  obtain ⟨u, rfl, ru⟩ := vals1 r
  cases dp with
  | non =>
    cases ru
    exact PySem.P.repr_of_none ⟨.str _, H, I.tok _, ⟨_, rfl⟩, by simp only [PyData.shown] at q; exact q⟩
  | bl b =>
    cases ru
    exact PySem.P.repr_of_bool ⟨.str _, H, I.tok _, ⟨_, rfl⟩, by simp only [PyData.shown] at q; exact q⟩
  | int i =>
    obtain ⟨t, rfl⟩ := ru
    exact PySem.P.repr_of_int (by simpa [PyData.showable] using hs) ⟨.str _, H, I.tok _, ⟨_, rfl⟩, by simp only [PyData.shown] at q; exact q⟩
  | str z =>
    obtain ⟨t, rfl⟩ := ru
    exact PySem.P.repr_of_str ⟨.str _, H, I.tok _, ⟨_, rfl⟩, by simp only [PyData.shown] at q; exact q⟩ (hsz := by simpa [PyData.shown] using hz)
  | @lst a ys ds h1 h2 =>
    obtain ⟨as, rd⟩ := Dp.reads I (.list ds) (.ref a) u (.lst h1 h2) ru
    cases ru
    exact repr_of_reads' rd hs (PyData.noDict_hsm hd) hg (by omega) (fun _ _ e => e) (fun h' t tk kp => ⟨.str _, H, I.kept (t' := tk) kp, ⟨t, rfl⟩, q⟩) hz
  | @tup a ys ds h1 h2 =>
    obtain ⟨as, rd⟩ := Dp.reads I (.tuple ds) (.ref a) u (.tup h1 h2) ru
    cases ru
    exact repr_of_reads' rd hs (PyData.noDict_hsm hd) hg (by omega) (fun _ _ e => e) (fun h' t tk kp => ⟨.str _, H, I.kept (t' := tk) kp, ⟨t, rfl⟩, q⟩) hz
theorem kReprU (hu : X.A.units + 200 < cLine) (hg : X.A.guards = some []) (h : X.K = K := by rfl) : CallR X (.builtin "repr") (rRepr K) := h ▸ call_reprU hu hg
theorem kEqD (hu : X.A.units + 200 < cLine) (h : X.K = K := by rfl) : OpR X (compareOp .Eq) (rEqE K) := h ▸ op_eq.or (op_eqD (by omega))
theorem kNeD (hu : X.A.units + 200 < cLine) (h : X.K = K := by rfl) : OpR X (compareOp .NotEq) (rNeE K) := h ▸ op_ne.or (op_neD (by omega))
theorem kInD (hu : X.A.units + 200 < cLine) (h : X.K = K := by rfl) : OpR X (compareOp .In) (rInA K) := h ▸ op_inA (by omega)
theorem fs_asgT {es : List Expr} {k : Nat} {tp : Pos} {e pos te f g fg} (he : FE X G E e te f) (hg : FG X G E (.Tuple es k tp) g fg) (hs : swapsWithSole [.Tuple es k tp] e pos.line X.env = pure false := by rfl) (hw : swappedStores [.Tuple es k tp] e X.env = pure none := by rfl)
    (h1 : (assignEach [.Tuple es k tp] X.env).map (·.2) = [assign (.Tuple es k tp) X.env] := by rfl) : FS X G E (.Assign [.Tuple es k tp] e pos) (tAsg te g) (mAsg f fg) := fs_asg he hg (ps_asg he.pe hg.pe hs hw h1)
theorem fs_unp {x y : Str} {px py : Pos} {k k2 : Nat} {tp ep : Pos} {e1 e2 pos t f te g} {i j : Nat} (nd : X.N.Nodup) (hi : X.N[i]? = some x) (hj : X.N[j]? = some y) (he : FN X G E e1 t f) (hg : FE X G E e2 te g) (hij : i ≠ j := by decide) (hx : X.env.scope.names.lookup x = some .local := by rfl) (hy : X.env.scope.names.lookup y = some .local := by rfl) (hc : X.calm = true := by rfl)
    (h12 : starEach [e1, e2] X.env = (false, eval e1 X.env) :: starEach [e2] X.env := by rfl) (h22 : starEach [e2] X.env = (false, eval e2 X.env) :: starEach [] X.env := by rfl)
    (hw : swappedStores [.Tuple [.Name x px, .Name y py] k tp] (.Tuple [e1, e2] k2 ep) X.env = pure (some [x, y]) := by rfl) :
    FS X G E (.Assign [.Tuple [.Name x px, .Name y py] k tp] (.Tuple [e1, e2] k2 ep) pos) (tPar i j (tCons t (tCons te tNil))) (mUnp i j f g) :=
  ⟨ps_par hc nd hi hj hij hx hy (pa_cons he.pe (pa_cons hg.pe pa_nil h22) h12) hw, sim_unp he.sim hg.sim⟩
theorem gk_tup {vs : List Nat} {es k t pos f} {n : Nat} (h : FGts X G es t f vs) (pe : PG X (.Tuple es k pos) (L2.gTup X.K n t)) (hK : X.K = K := by rfl) : FGt X G (.Tuple es k pos) (L2.gTup K n t) (gTupM n f) vs := hK ▸ gt_tup h pe
theorem gk_un {es k t pos f} {n : Nat} (h : FGs X G E es t f) (p1 : PG X (.Tuple es k pos) (L2.gTup X.K n t)) (p2 : PG X (.Tuple es k pos) (L2.gLst X.K n t)) (hK : X.K = K := by rfl) : FG X G E (.Tuple es k pos) (gUnR K n t) (gUn n f) := hK ▸ fg_un h p1 p2
end
theorem tb_nil {α : Type} {P : α → Prop} : ∀ p ∈ ([] : List α), P p := fun _ h => nomatch h
theorem tb_cons {α : Type} {P : α → Prop} {x : α} {l : List α} (h : P x) (r : ∀ p ∈ l, P p) : ∀ p ∈ x :: l, P p := fun p hp => by
  rcases List.mem_cons.mp hp with rfl | hp
  · exact h
  · exact r p hp
/-- fuel has run out -/
theorem fnG_bad {P : Program} {w : World} {K : PySem.W.Frag} {mg : Str → Option Value} {base : Heap} {k n : Nat} {f : Addr} {fd : FuncData} {ps : List Str} (hn : n = ps.length) : FnG P w K mg base k f fd ps (spM K mg n fun _ _ => .bad) :=
  ⟨fun vs H Q E h => (spM_len vs H Q E h).trans hn, fun _ _ _ _ _ _ _ _ _ _ _ _ _ _ ⟨_, _, _, _, _, _, g⟩ => g.elim⟩
/-! ### heads -/
def entB (K : PySem.W.Frag) : List DictEntry → List (Str × PV) → Bool
  | [], [] => true
  | e :: es, (k, p) :: r => (match e.key with | .str y _ => decide (y = k) | _ => false) && (pvB K p e.val && entB K es r)
  | _, _ => false
theorem entB_ok {K : PySem.W.Frag} {z : Str} : ∀ {es : List DictEntry} {tbl : List (Str × PV)}, entB K es tbl = true → es.any (·.refKey) = false ∧ match tbl.lookup z with
    | none => es.find? (·.key.isStr z) = none
    | some p => ∃ e, es.find? (·.key.isStr z) = some e ∧ pvB K p e.val = true
  | [], [], _ => ⟨rfl, rfl⟩
  | [], _ :: _, h => by simp [entB] at h
  | _ :: _, [], h => by simp [entB] at h
  | e :: es, (k, p) :: r, h => by
    obtain ⟨h1, h2⟩ := He.ba h
    obtain ⟨h3, h4⟩ := He.ba h2
    obtain ⟨i1, i2⟩ := entB_ok (z := z) h4
    obtain ⟨hh, ky, vl⟩ := e
    cases ky with
    | str y t =>
      have e1 : y = k := of_decide_eq_true h1
      subst e1
      refine ⟨?_, ?_⟩
      · rw [List.any_cons, i1]; rfl
      · rw [List.lookup_cons, List.find?_cons]
        by_cases q : z = y
        · subst q
          have : (z == z) = true := by simp
          rw [this]
          have e2 : (Value.str z t).isStr z = true := by simp [Value.isStr]
          show ∃ e, (match (Value.str z t).isStr z with | true => _ | false => _) = some e ∧ _
          rw [e2]
          exact ⟨_, rfl, h3⟩
        · have e2 : (Value.str y t).isStr z = false := by
            simp [Value.isStr]
            exact fun e => q e.symm
          have e3 : (z == y) = false := by simpa using q
          rw [e3]
          show match r.lookup z with | none => (match (Value.str y t).isStr z with | true => _ | false => _) = none | some p => ∃ e, (match (Value.str y t).isStr z with | true => _ | false => _) = some e ∧ _
          rw [e2]
          exact i2
    | _ => cases h1
def dicB (K : PySem.W.Frag) (x : Str) (tbl : List (Str × PV)) : Bool := He.eqO (PySem.W.nsIn K mainGlobals x) (some (some (.ref (He.ga K x)))) && (match K.lookup (He.ga K x) with
  | some ⟨_, _, .dict es _, _⟩ => entB K es.toList tbl
  | _ => false)
theorem dic_ok {K : PySem.W.Frag} {h : Heap} {w : World} {mg : Str → Option Value} (X : K.In h) (G : h.Ns mainGlobals mg) {x : Str} {tbl : List (Str × PV)} (c : dicB K x tbl = true) (kd : ∃ es n, KDict K w (He.ga K x) es n) : CDict K w mg x (He.ga K x) tbl := by
  obtain ⟨h1, h2⟩ := He.ba c
  have ns : ∃ es n oc od sl, K.lookup (He.ga K x) = some ⟨oc, od, .dict es n, sl⟩ ∧ entB K es.toList tbl = true := by
    cases q : K.lookup (He.ga K x) with
    | none => rw [q] at h2; cases h2
    | some o =>
      obtain ⟨oc, od, dt, sl⟩ := o
      rw [q] at h2
      cases dt with
      | dict es n => exact ⟨es, n, oc, od, sl, rfl, h2⟩
      | _ => cases h2
  obtain ⟨es, n, oc, od, sl, lk, eb⟩ := ns
  refine ⟨PySem.W.mg_of X G (He.eqO_ok h1), kd, fun z hz => ?_, fun z p hz => ?_⟩
  · obtain ⟨i1, i2⟩ := entB_ok (z := z) eb
    rw [hz] at i2
    unfold PySem.W.nsIn
    rw [lk]
    show (match es.toList.find? (·.key.isStr z) with | some e => some (some e.val) | none => if es.toList.any (·.refKey) then none else some none) = some none
    rw [show es.toList.find? (·.key.isStr z) = none from i2, i1]
    rfl
  · obtain ⟨i1, i2⟩ := entB_ok (z := z) eb
    rw [hz] at i2
    obtain ⟨e, e1, e2⟩ := i2
    obtain ⟨v, r1, r2⟩ := pvB_ok e2
    refine ⟨v, e.val, ?_, r1, r2⟩
    unfold PySem.W.nsIn
    rw [lk]
    show (match es.toList.find? (·.key.isStr z) with | some e => some (some e.val) | none => if es.toList.any (·.refKey) then none else some none) = some (some e.val)
    rw [e1]
def obsN (n : Nat) (fa : List He.Fa) (fn : List He.DefD) (ts : List He.Tab) (ex : PySem.W.Frag → Bool) (g : Addr → Option Obj) : He.AlT × Bool := (He.obsT fa fn ts (He.frG g (He.asD g n)), ex (He.frG g (He.asD g n)))
def hookN (n : Nat) (fa : List He.Fa) (fn : List He.DefD) (ts : List He.Tab) (ex : PySem.W.Frag → Bool) : PySem.W.Hook where
  α := He.AlT × Bool
  obs := fun s => obsN n fa fn ts ex s.heap.get?
  val := fun w => (He.valT fn ts w, true)
  says := fun w h => ∃ K : PySem.W.Frag, K.In h ∧ He.SaysT fa fn ts w K ∧ ex K = true
  of := fun _ _ e => ⟨_, He.frG_in, congrArg Prod.fst e, congrArg Prod.snd e⟩
  keeps := fun _ _ _ ⟨K, hK, c⟩ k => ⟨K, PySem.W.Frag.In.keeps hK k, c⟩
def obN (n : Nat) (fa : List He.Fa) (fn : List He.DefD) (ts : List He.Tab) (ex : PySem.W.Frag → Bool) (s : PySem.W.SharedT) : He.AlT × Bool := obsN n fa fn ts ex (HandSHeadRun.getT s)
theorem obN_eq {n : Nat} {fa : List He.Fa} {fn : List He.DefD} {ts : List He.Tab} {ex : PySem.W.Frag → Bool} (s : PySem.W.SharedT) : obN n fa fn ts ex s = (hookN n fa fn ts ex).obs s.abs := by
  have e : HandSHeadRun.getT s = s.abs.heap.get? := funext fun a => HandSHeadRun.getT_eq s a
  unfold obN
  rw [e]
  rfl
end Mir
namespace Mir
open PySem PySem.Spec PyProof.Rows L2
theorem takes_def {P : Program} {w : World} {K : PySem.W.Frag} {mg : Str → Option Value} {base : Heap} {N : List Str} {qual : Str} {sc : Scope} {f : Addr} {cd : Value} {A : Around} {outer : List Env} {s : Shared} {H : Hp} {E : XK} :
    Takes (cxOf (L2.CX P w) P w K mg base N qual sc f cd A outer s H E) (fun c d _ H => E c d H) := takes_of rfl rfl rfl rfl
/-- the j-th statement of a class's body -/
def clsStmt (st : Stmt) (j : Nat) : Stmt := match st with
  | .ClassDef _ _ _ body _ _ _ _ _ _ _ => body.getD j (.Pass ⟨0, 0, 0, 0⟩)
  | _ => .Pass ⟨0, 0, 0, 0⟩
end Mir
namespace Mir
open PySem
/-- a world whose followText says b at x -/
def setFT (w : World) (x : String) (b : Bool) : World := { w with params := { w.params with followText := fun s => if s = x then b else w.params.followText s } }
theorem setFT_eq (w : World) (x : String) : setFT w x (w.params.followText x) = w := by
  have h : (fun s => if s = x then w.params.followText x else w.params.followText s) = w.params.followText := by
    funext s
    by_cases h : s = x
    · subst h; simp
    · simp [h]
  unfold setFT
  rw [h]
end Mir
set_option maxHeartbeats 4000000
namespace K07
open PySem PySem.Spec PyProof.Rows L2 Mir
/-! ### the text -/
def topS (i : Nat) : Stmt := PySem.Challenge.pw_cellrealm_k07_terms_right_and_spoilt.main.body.getD i (.Pass ⟨0, 0, 0, 0⟩)
abbrev s_is_bit : Stmt := topS 7
theorem sc_is_bit : FnScope ["value"] ["value"] (defScope s_is_bit) := ⟨rfl, rfl, rfl, by decide +kernel, rfl, by decide +kernel, by decide +kernel⟩
abbrev s_is_table : Stmt := topS 8
theorem sc_is_table : FnScope ["value", "m", "worth"] ["value", "m"] (defScope s_is_table) := ⟨rfl, rfl, rfl, by decide +kernel, rfl, by decide +kernel, by decide +kernel⟩
abbrev s_table_of : Stmt := topS 9
theorem sc_table_of : FnScope ["word"] ["word"] (defScope s_table_of) := ⟨rfl, rfl, rfl, by decide +kernel, rfl, by decide +kernel, by decide +kernel⟩
abbrev s_widened : Stmt := topS 10
theorem sc_widened : FnScope ["table", "at"] ["table"] (defScope s_widened) := ⟨rfl, rfl, rfl, by decide +kernel, rfl, by decide +kernel, by decide +kernel⟩
abbrev s__is_term : Stmt := topS 14
theorem sc__is_term : FnScope ["value", "left"] ["value", "left"] (defScope s__is_term) := ⟨rfl, rfl, rfl, by decide +kernel, rfl, by decide +kernel, by decide +kernel⟩
abbrev s_put_in : Stmt := topS 15
theorem sc_put_in : FnScope ["table", "parts", "one", "two", "three", "at"] ["table", "parts"] (defScope s_put_in) := ⟨rfl, rfl, rfl, by decide +kernel, rfl, by decide +kernel, by decide +kernel⟩
abbrev s__told : Stmt := topS 16
theorem sc__told : FnScope ["table", "term", "part"] ["table", "term"] (defScope s__told) := ⟨rfl, rfl, rfl, by decide +kernel, rfl, by decide +kernel, by decide +kernel⟩
abbrev s_term_table : Stmt := topS 17
theorem sc_term_table : FnScope ["table", "term"] ["table", "term"] (defScope s_term_table) := ⟨rfl, rfl, rfl, by decide +kernel, rfl, by decide +kernel, by decide +kernel⟩
abbrev s_turned : Stmt := topS 18
theorem sc_turned : FnScope ["table", "worth"] ["table"] (defScope s_turned) := ⟨rfl, rfl, rfl, by decide +kernel, rfl, by decide +kernel, by decide +kernel⟩
abbrev s_is_plain : Stmt := topS 19
theorem sc_is_plain : FnScope ["table"] ["table"] (defScope s_is_plain) := ⟨rfl, rfl, rfl, by decide +kernel, rfl, by decide +kernel, by decide +kernel⟩
abbrev s__applied : Stmt := topS 20
theorem sc__applied : FnScope ["turns", "parts"] ["turns", "parts"] (defScope s__applied) := ⟨rfl, rfl, rfl, by decide +kernel, rfl, by decide +kernel, by decide +kernel⟩
abbrev s__readings : Stmt := topS 21
theorem sc__readings : FnScope ["table"] ["table"] (defScope s__readings) := ⟨rfl, rfl, rfl, by decide +kernel, rfl, by decide +kernel, by decide +kernel⟩
abbrev s_term_of : Stmt := topS 22
theorem sc_term_of : FnScope ["table", "turns", "readings", "worths", "parts", "once", "whole", "_"] ["table"] (defScope s_term_of) := ⟨rfl, rfl, rfl, by decide +kernel, rfl, by decide +kernel, by decide +kernel⟩
abbrev s_term_holds : Stmt := topS 23
theorem sc_term_holds : FnScope ["table", "claim", "word", "term"] ["table", "claim"] (defScope s_term_holds) := ⟨rfl, rfl, rfl, by decide +kernel, rfl, by decide +kernel, by decide +kernel⟩
abbrev s__law_draws : Stmt := topS 25
theorem sc__law_draws : FnScope ["script", "many", "rests", "draws", "k", "cell", "mixed", "at"] ["script", "many"] (defScope s__law_draws) := ⟨rfl, rfl, rfl, by decide +kernel, rfl, by decide +kernel, by decide +kernel⟩
abbrev s__law_take : Stmt := topS 26
theorem sc__law_take : FnScope ["hand", "many", "at", "draws"] ["hand", "many"] (defScope s__law_take) := ⟨rfl, rfl, rfl, by decide +kernel, rfl, by decide +kernel, by decide +kernel⟩
abbrev s__law_every : Stmt := topS 27
theorem sc__law_every : FnScope ["many", "found", "k", "longer", "row"] ["many"] (defScope s__law_every) := ⟨rfl, rfl, rfl, by decide +kernel, rfl, by decide +kernel, by decide +kernel⟩
abbrev s__law_place : Stmt := topS 28
theorem sc__law_place : FnScope ["row", "place", "value"] ["row"] (defScope s__law_place) := ⟨rfl, rfl, rfl, by decide +kernel, rfl, by decide +kernel, by decide +kernel⟩
abbrev s__law_six : Stmt := topS 29
theorem sc__law_six : FnScope [] [] (defScope s__law_six) := ⟨rfl, rfl, rfl, by decide +kernel, rfl, by decide +kernel, by decide +kernel⟩
abbrev s__law_places_of : Stmt := topS 30
theorem sc__law_places_of : FnScope ["table"] ["table"] (defScope s__law_places_of) := ⟨rfl, rfl, rfl, by decide +kernel, rfl, by decide +kernel, by decide +kernel⟩
abbrev s__law_term_table : Stmt := topS 31
theorem sc__law_term_table : FnScope ["table", "term", "parts", "part", "k", "row"] ["table", "term"] (defScope s__law_term_table) := ⟨rfl, rfl, rfl, by decide +kernel, rfl, by decide +kernel, by decide +kernel⟩
abbrev s__law_is_term : Stmt := topS 32
theorem sc__law_is_term : FnScope ["value", "depth", "part"] ["value", "depth"] (defScope s__law_is_term) := ⟨rfl, rfl, rfl, by decide +kernel, rfl, by decide +kernel, by decide +kernel⟩
abbrev s__law_is_plain : Stmt := topS 33
theorem sc__law_is_plain : FnScope ["table", "place", "one", "row", "value"] ["table"] (defScope s__law_is_plain) := ⟨rfl, rfl, rfl, by decide +kernel, rfl, by decide +kernel, by decide +kernel⟩
abbrev s__law_widened : Stmt := topS 34
theorem sc__law_widened : FnScope ["table", "m", "row"] ["table", "m"] (defScope s__law_widened) := ⟨rfl, rfl, rfl, by decide +kernel, rfl, by decide +kernel, by decide +kernel⟩
abbrev s__law_claim_holds : Stmt := topS 35
theorem sc__law_claim_holds : FnScope ["table", "claim", "found", "word", "one"] ["table", "claim"] (defScope s__law_claim_holds) := ⟨rfl, rfl, rfl, by decide +kernel, rfl, by decide +kernel, by decide +kernel⟩
abbrev s__law_drawn_term : Stmt := topS 36
theorem sc__law_drawn_term : FnScope ["hand", "depth", "k"] ["hand", "depth"] (defScope s__law_drawn_term) := ⟨rfl, rfl, rfl, by decide +kernel, rfl, by decide +kernel, by decide +kernel⟩
abbrev s__law_odd : Stmt := topS 37
theorem sc__law_odd : FnScope ["hand"] ["hand"] (defScope s__law_odd) := ⟨rfl, rfl, rfl, by decide +kernel, rfl, by decide +kernel, by decide +kernel⟩
abbrev s__law_told : Stmt := topS 38
theorem sc__law_told : FnScope ["table", "term", "e"] ["table", "term"] (defScope s__law_told) := ⟨rfl, rfl, rfl, by decide +kernel, rfl, by decide +kernel, by decide +kernel⟩
abbrev s__law_deep : Stmt := topS 39
theorem sc__law_deep : FnScope ["hand", "many", "term", "k"] ["hand", "many"] (defScope s__law_deep) := ⟨rfl, rfl, rfl, by decide +kernel, rfl, by decide +kernel, by decide +kernel⟩
abbrev s__law_chain : Stmt := topS 40
theorem sc__law_chain : FnScope ["hand", "word", "term", "k"] ["hand", "word"] (defScope s__law_chain) := ⟨rfl, rfl, rfl, by decide +kernel, rfl, by decide +kernel, by decide +kernel⟩
abbrev s__law_size : Stmt := topS 41
theorem sc__law_size : FnScope ["term", "part"] ["term"] (defScope s__law_size) := ⟨rfl, rfl, rfl, by decide +kernel, rfl, by decide +kernel, by decide +kernel⟩
abbrev s__law_bent : Stmt := topS 42
theorem sc__law_bent : FnScope ["hand", "term", "parents", "step", "odd", "part", "old", "at"] ["hand", "term"] (defScope s__law_bent) := ⟨rfl, rfl, rfl, by decide +kernel, rfl, by decide +kernel, by decide +kernel⟩
abbrev s__law_terms_told : Stmt := topS 43
theorem sc__law_terms_told : FnScope ["hand", "table", "k", "term", "told"] ["hand", "table"] (defScope s__law_terms_told) := ⟨rfl, rfl, rfl, by decide +kernel, rfl, by decide +kernel, by decide +kernel⟩
abbrev s__law_claims : Stmt := topS 44
theorem sc__law_claims : FnScope ["hand", "table", "word", "claims", "one", "term", "other", "told"] ["hand", "table"] (defScope s__law_claims) := ⟨rfl, rfl, rfl, by decide +kernel, rfl, by decide +kernel, by decide +kernel⟩
abbrev s_law : Stmt := topS 45
theorem sc_law : FnScope ["script", "hand", "number", "table", "claim", "odd", "word", "one", "found", "j"] ["script"] (defScope s_law) := ⟨rfl, rfl, rfl, by decide +kernel, rfl, by decide +kernel, by decide +kernel⟩
/-! ### the mirrors -/
def c_DEEPEST : PV := (.int (12))
def c_PLACES : PV := (.tup [(.tup [(.int (0)), (.int (0)), (.int (0)), (.int (0)), (.int (1)), (.int (1)), (.int (1)), (.int (1))]), (.tup [(.int (0)), (.int (0)), (.int (1)), (.int (1)), (.int (0)), (.int (0)), (.int (1)), (.int (1))]), (.tup [(.int (0)), (.int (1)), (.int (0)), (.int (1)), (.int (0)), (.int (1)), (.int (0)), (.int (1))])])
def c_SIZES : PV := (.tup [(.int (1)), (.int (2)), (.int (4)), (.int (8)), (.int (16))])
def c_TABLES : List (Str × PV) := [("all no", (.tup [(.int (0)), (.int (0))])), ("all yes", (.tup [(.int (1)), (.int (1))])), ("and", (.tup [(.int (0)), (.int (0)), (.int (0)), (.int (1))])), ("or", (.tup [(.int (0)), (.int (1)), (.int (1)), (.int (1))])), ("majority", (.tup [(.int (0)), (.int (0)), (.int (0)), (.int (1)), (.int (0)), (.int (1)), (.int (1)), (.int (1))])), ("odd one", (.tup [(.int (0)), (.int (1)), (.int (1)), (.int (0)), (.int (1)), (.int (0)), (.int (0)), (.int (1))]))]
def b_is_bit : Rho → Store → Res Out :=
  (mRet (mAndV (mIsi "int" (mVar 0)) (mAndV (mNotV (mIsi "bool" (mVar 0))) (mChain gLe gLe (mC (.int 0)) (mVar 0) (mC (.int 1))))))
def m_is_bit : List PV → Store → Res PV := mDef 1 b_is_bit
def b_is_table : Rho → Store → Res Out :=
  (mSeq (mIfS (mOr (mNot (mB (mIsi "tuple" (mVar 0)))) (mB (mOp (gEqD true) (mArgs gLen (mCons (mVar 0) mNil)) (mOp gIx (mC c_SIZES) (mVar 1)))))
    (mRet (mC (.bl false)))
    mSkip)
    (mSeq (mFor (mSeqOf (mVar 0)) (gNm 2)
    (mIfS (mNot (mB (mCall 1 m_is_bit [] (mCons (mVar 2) mNil))))
    (mRet (mC (.bl false)))
    mSkip))
    (mRet (mC (.bl true)))))
def m_is_table : List PV → Store → Res PV := mDef 3 b_is_table
def b_table_of : Rho → Store → Res Out :=
  (mSeq (mIfS (mOr (mNot (mB (mIsi "str" (mVar 0)))) (mB (mKIn true c_TABLES (mVar 0))))
    (mRaise "Undefined" ["what"] (mCons (mC (.str "word")) mNil))
    mSkip)
    (mRet (mKGet c_TABLES (mVar 0))))
def m_table_of : List PV → Store → Res PV := mDef 1 b_table_of
def b_widened : Rho → Store → Res Out :=
  (mRet (mArgs gTuple (mCons (mFrz (mLc (mRange gRange1 (mCons (mC (.int 8)) mNil)) (gNm 1) mTrue (mOp gIx (mVar 0) (mOp gFdiv (mVar 1) (mOp gFdiv (mC (.int 8)) (mArgs gLen (mCons (mVar 0) mNil))))) [1])) mNil)))
def m_widened : List PV → Store → Res PV := mDef 2 b_widened
def b__is_term (self : List PV → Store → Res PV) : Rho → Store → Res Out :=
  (mSeq (mIfS (mB (mIsi "int" (mVar 0)))
    (mRet (mAndV (mNotV (mIsi "bool" (mVar 0))) (mChain gLe gLe (mC (.int 0)) (mVar 0) (mC (.int 2)))))
    mSkip)
    (mSeq (mIfS (mOr (mNot (mB (mIsi "tuple" (mVar 0)))) (mOr (mB (mOp (gEqD true) (mArgs gLen (mCons (mVar 0) mNil)) (mC (.int 3)))) (mB (mOp (gEqD false) (mVar 1) (mC (.int 0))))))
    (mRet (mC (.bl false)))
    mSkip)
    (mRet (mAndV (mCall 2 self [] (mCons (mOp gIx (mVar 0) (mC (.int 0))) (mCons (mOp gSub (mVar 1) (mC (.int 1))) mNil))) (mAndV (mCall 2 self [] (mCons (mOp gIx (mVar 0) (mC (.int 1))) (mCons (mOp gSub (mVar 1) (mC (.int 1))) mNil))) (mCall 2 self [] (mCons (mOp gIx (mVar 0) (mC (.int 2))) (mCons (mOp gSub (mVar 1) (mC (.int 1))) mNil))))))))
def m__is_term : Nat → List PV → Store → Res PV
  | 0 => fun _ _ => .bad
  | n + 1 => mDef 2 (b__is_term (m__is_term n))
def b_put_in : Rho → Store → Res Out :=
  (mSeq (mAsg (mVar 1) (gUn 3 (gsCons (gNm 2) (gsCons (gNm 3) (gsCons (gNm 4) gsNil)))))
    (mRet (mArgs gTuple (mCons (mFrz (mLc (mRange gRange1 (mCons (mC (.int 8)) mNil)) (gNm 5) mTrue (mOp gIx (mVar 0) (mOp gAddA (mOp gAddA (mOp gMulA (mC (.int 4)) (mOp gIx (mVar 2) (mVar 5))) (mOp gMulA (mC (.int 2)) (mOp gIx (mVar 3) (mVar 5)))) (mOp gIx (mVar 4) (mVar 5)))) [5])) mNil))))
def m_put_in : List PV → Store → Res PV := mDef 6 b_put_in
def b__told (self : List PV → Store → Res PV) : Rho → Store → Res Out :=
  (mSeq (mIfS (mB (mIsi "int" (mVar 1)))
    (mRet (mOp gIx (mC c_PLACES) (mVar 1)))
    mSkip)
    (mRet (mCall 2 m_put_in [] (mCons (mVar 0) (mCons (mFrz (mLc (mSeqOf (mVar 1)) (gNm 2) mTrue (mCall 2 self [] (mCons (mVar 0) (mCons (mVar 2) mNil))) [2])) mNil)))))
def m__told : Nat → List PV → Store → Res PV
  | 0 => fun _ _ => .bad
  | n + 1 => mDef 3 (b__told (m__told n))
def b_term_table : Rho → Store → Res Out :=
  (mSeq (mIfS (mNot (mB (mCall 2 m_is_table [] (mCons (mVar 0) (mCons (mC (.int 3)) mNil)))))
    (mRaise "InvalidTable" ["value"] (mCons (mVar 0) mNil))
    mSkip)
    (mSeq (mIfS (mNot (mB (mCall 2 (m__is_term 20) [] (mCons (mVar 1) (mCons (mC c_DEEPEST) mNil)))))
    (mRaise "Undefined" ["what"] (mCons (mC (.str "term")) mNil))
    mSkip)
    (mRet (mCall 2 (m__told 20) [] (mCons (mVar 0) (mCons (mVar 1) mNil))))))
def m_term_table : List PV → Store → Res PV := mDef 2 b_term_table
def b_turned : Rho → Store → Res Out :=
  (mRet (mArgs gTuple (mCons (mFrz (mLc (mSeqOf (mVar 0)) (gNm 1) mTrue (mOp gSub (mC (.int 1)) (mVar 1)) [1])) mNil)))
def m_turned : List PV → Store → Res PV := mDef 2 b_turned
def b_is_plain : Rho → Store → Res Out :=
  (mRet (mOrV (mOp (gInD false) (mVar 0) (mC c_PLACES)) (mOp (gInD false) (mCall 1 m_turned [] (mCons (mVar 0) mNil)) (mC c_PLACES))))
def m_is_plain : List PV → Store → Res PV := mDef 1 b_is_plain
def b__applied : Rho → Store → Res Out :=
  (mSeq (mIfS (mB (mVar 0))
    (mRet (mArgs gTup (mCons (mVar 1) (mCons (mVar 1) (mCons (mVar 1) mNil)))))
    mSkip)
    (mRet (mVar 1)))
def m__applied : List PV → Store → Res PV := mDef 2 b__applied
def b__readings : Rho → Store → Res Out :=
  (mRet (mArgs gTup (mCons (mArgs gTup (mCons (mArgs gTup (mCons (mOp gIx (mVar 0) (mC (.int 1))) (mCons (mOp gIx (mVar 0) (mC (.int 6))) mNil))) (mCons (mArgs gTup (mCons (mC (.int 0)) (mCons (mC (.int 0)) (mCons (mC (.int 1)) mNil)))) mNil))) (mCons (mArgs gTup (mCons (mArgs gTup (mCons (mOp gIx (mVar 0) (mC (.int 2))) (mCons (mOp gIx (mVar 0) (mC (.int 5))) mNil))) (mCons (mArgs gTup (mCons (mC (.int 0)) (mCons (mC (.int 1)) (mCons (mC (.int 0)) mNil)))) mNil))) (mCons (mArgs gTup (mCons (mArgs gTup (mCons (mOp gIx (mVar 0) (mC (.int 4))) (mCons (mOp gIx (mVar 0) (mC (.int 3))) mNil))) (mCons (mArgs gTup (mCons (mC (.int 1)) (mCons (mC (.int 0)) (mCons (mC (.int 0)) mNil)))) mNil))) mNil)))))
def m__readings : List PV → Store → Res PV := mDef 1 b__readings
def b_term_of : Rho → Store → Res Out :=
  (mSeq (mIfS (mNot (mB (mCall 2 m_is_table [] (mCons (mVar 0) (mCons (mC (.int 3)) mNil)))))
    (mRaise "InvalidTable" ["value"] (mCons (mVar 0) mNil))
    mSkip)
    (mSeq (mIfS (mB (mCall 1 m_is_plain [] (mCons (mVar 0) mNil)))
    (mRaise "Undefined" ["what"] (mCons (mC (.str "plain")) mNil))
    mSkip)
    (mSeq (mIfS (mB (mOp (gEqD false) (mOp gIx (mVar 0) (mC (.int 0))) (mOp gIx (mVar 0) (mC (.int 7)))))
    (mRet (mArgs gTup (mCons (mOp gIx (mArgs gTup (mCons (mC (.str "all no")) (mCons (mC (.str "all yes")) mNil))) (mOp gIx (mVar 0) (mC (.int 0)))) (mCons (mArgs gTup (mCons (mC (.int 0)) (mCons (mC (.int 0)) (mCons (mC (.int 0)) mNil)))) mNil))))
    mSkip)
    (mSeq (mSet 1 (mOp (gEqD false) (mOp gIx (mVar 0) (mC (.int 0))) (mC (.int 1))))
    (mSeq (mIfS (mB (mVar 1))
    (mSet 0 (mCall 2 m_put_in [] (mCons (mVar 0) (mCons (mArgs gTup (mCons (mVar 0) (mCons (mVar 0) (mCons (mVar 0) mNil)))) mNil))))
    mSkip)
    (mSeq (mSet 2 (mCall 1 m__readings [] (mCons (mVar 0) mNil)))
    (mSeq (mFor (mSeqOf (mVar 2)) (gUn 2 (gsCons (gNm 3) (gsCons (gNm 4) gsNil)))
    (mIfS (mB (mOp (gEqD false) (mOp gIx (mVar 3) (mC (.int 0))) (mOp gIx (mVar 3) (mC (.int 1)))))
    (mRet (mArgs gTup (mCons (mOp gIx (mArgs gTup (mCons (mC (.str "and")) (mCons (mC (.str "or")) mNil))) (mOp gIx (mVar 3) (mC (.int 0)))) (mCons (mCall 2 m__applied [] (mCons (mVar 1) (mCons (mVar 4) mNil))) mNil))))
    mSkip))
    (mSeq (mSet 5 (mFrz (mLc (mSeqOf (mVar 2)) (gTupM 2 (gsCons (gNm 3) (gsCons (gNm 7) gsNil))) mTrue (mOp gIx (mVar 3) (mC (.int 0))) [3, 7])))
    (mSeq (mSet 6 (mCall 2 m__applied [] (mCons (mVar 1) (mCons (mArgs gTup (mCons (mC (.int 0)) (mCons (mC (.int 1)) (mCons (mC (.int 2)) mNil)))) mNil))))
    (mSeq (mIfS (mB (mOp (gEqD false) (mArgs gSum (mCons (mVar 5) mNil)) (mC (.int 0))))
    (mRet (mArgs gTup (mCons (mC (.str "majority")) (mCons (mVar 6) mNil))))
    mSkip)
    (mSeq (mIfS (mB (mOp (gEqD false) (mArgs gSum (mCons (mVar 5) mNil)) (mC (.int 3))))
    (mRet (mArgs gTup (mCons (mC (.str "odd one")) (mCons (mVar 6) mNil))))
    mSkip)
    (mSeq (mSetOwn 4 (mArgs gLst (mCons (mC (.int 0)) (mCons (mC (.int 1)) (mCons (mC (.int 2)) mNil)))))
    (mSeq (mSetIx 4 (mOp gSub (mC (.int 2)) (mIndex (mVar 5) (mCons (mC (.int 0)) mNil))) (mVar 6))
    (mFrzS 4 (mRet (mArgs gTup (mCons (mC (.str "majority")) (mCons (mCall 2 m__applied [] (mCons (mVar 1) (mCons (mArgs gTuple (mCons (mVar 4) mNil)) mNil))) mNil))))))))))))))))))
def m_term_of : List PV → Store → Res PV := mDef 8 b_term_of
def b_term_holds : Rho → Store → Res Out :=
  (mSeq (mIfS (mOr (mNot (mB (mIsi "tuple" (mVar 1)))) (mB (mOp (gEqD true) (mArgs gLen (mCons (mVar 1) mNil)) (mC (.int 2)))))
    (mRet (mC (.bl false)))
    mSkip)
    (mSeq (mAsg (mVar 1) (gUn 2 (gsCons (gNm 2) (gsCons (gNm 3) gsNil))))
    (mSeq (mIfS (mOr (mNot (mB (mIsi "str" (mVar 2)))) (mOr (mB (mKIn true c_TABLES (mVar 2))) (mNot (mB (mCall 2 (m__is_term 20) [] (mCons (mVar 3) (mCons (mC c_DEEPEST) mNil)))))))
    (mRet (mC (.bl false)))
    mSkip)
    (mRet (mOp (gEqD false) (mCall 2 (m__told 20) [] (mCons (mVar 0) (mCons (mVar 3) mNil))) (mCall 1 m_widened [] (mCons (mCall 1 m_table_of [] (mCons (mVar 2) mNil)) mNil)))))))
def m_term_holds : List PV → Store → Res PV := mDef 4 b_term_holds
def b__law_draws : Rho → Store → Res Out :=
  (mSeq (mSetOwn 2 (mLc (mSeqOf (mVar 0)) (gNm 5) mTrue (mArgs gAbs (mCons (mArgs gInt (mCons (mVar 5) mNil)) mNil)) [5]))
    (mSeq (mSetOwn 3 (mArgs gLst mNil))
    (mSeq (mFor (mRange gRange1 (mCons (mVar 1) mNil)) (gNm 4)
    (mSeq (mSet 5 (mVar 4))
    (mSeq (mIfS (mB (mOp gGt (mArgs gLen (mCons (mVar 0) mNil)) (mC (.int 0))))
    (mSeq (mSet 7 (mOp gMod (mVar 4) (mArgs gLen (mCons (mVar 0) mNil))))
    (mSeq (mSet 5 (mArgs gInt (mCons (mOp gIx (mVar 0) (mVar 7)) mNil)))
    (mIfS (mAnd (mB (mOp gGe (mVar 5) (mOp gPow (mC (.int 10)) (mC (.int 18))))) (mB (mOp gGt (mIxOwn 2 (mVar 7)) (mC (.int 0)))))
    (mSeq (mAppend 3 (mOp gMod (mArgs gInt (mCons (mIxOwn 2 (mVar 7)) mNil)) (mC (.int 1000003))))
    (mSeq (mSetIx 2 (mVar 7) (mOp gFdiv (mArgs gInt (mCons (mIxOwn 2 (mVar 7)) mNil)) (mC (.int 1000003))))
    mCnt))
    mSkip)))
    mSkip)
    (mSeq (mSet 6 (mOp gMod (mArgs gInt (mCons (mOp gAddA (mOp gAddA (mOp gMulA (mVar 5) (mC (.int 48271))) (mOp gMulA (mVar 4) (mC (.int 69621)))) (mC (.int 11))) mNil)) (mC (.int 2147483647))))
    (mSeq (mSet 6 (mOp gMod (mArgs gInt (mCons (mOp gAddA (mOp gFdiv (mOp gMulA (mVar 6) (mVar 6)) (mC (.int 4096))) (mVar 6)) mNil)) (mC (.int 2147483629))))
    (mAppend 3 (mOp gMod (mArgs gInt (mCons (mOp gAddA (mOp gFdiv (mOp gMulA (mVar 6) (mVar 6)) (mC (.int 4096))) (mOp gMulA (mVar 4) (mC (.int 7919)))) mNil)) (mC (.int 2147483629)))))))))
    (mFrzS 2 (mRetOwn 3)))))
def m__law_draws : List PV → Store → Res PV := mDef 8 b__law_draws
def b__law_take : Rho → Store → Res Out :=
  (mSeq (mSet 2 (mOp gIx (mVar 0) (mC (.int 1))))
    (mSeq (mSetIx 0 (mC (.int 1)) (mOp gAddA (mVar 2) (mC (.int 1))))
    (mSeq (mSet 3 (mOp gIx (mVar 0) (mC (.int 0))))
    (mSeq (mIfS (mB (mOp gGe (mVar 2) (mArgs gLen (mCons (mVar 3) mNil))))
    (mRet (mC (.int 0)))
    mSkip)
    (mRet (mOp gMod (mOp gFdiv (mArgs gInt (mCons (mOp gIx (mVar 3) (mVar 2)) mNil)) (mC (.int 7))) (mVar 1)))))))
def m__law_take : List PV → Store → Res PV := mDef 4 b__law_take
def b__law_every : Rho → Store → Res Out :=
  (mSeq (mSet 1 (mFrz (mArgs gLst (mCons (mArgs gTup mNil) mNil))))
    (mSeq (mFor (mRange gRange1 (mCons (mVar 0) mNil)) (gNm 2)
    (mSeq (mSet 3 (mFrz (mArgs gLst mNil)))
    (mSeq (mFor (mSeqOf (mVar 1)) (gNm 4)
    (mSet 3 (mOp gAddA (mVar 3) (mFrz (mArgs gLst (mCons (mOp gAddA (mVar 4) (mArgs gTup (mCons (mC (.int 0)) mNil))) (mCons (mOp gAddA (mVar 4) (mArgs gTup (mCons (mC (.int 1)) mNil))) mNil)))))))
    (mSet 1 (mVar 3)))))
    (mRet (mVar 1))))
def m__law_every : List PV → Store → Res PV := mDef 5 b__law_every
def b__law_place : Rho → Store → Res Out :=
  (mSeq (mSet 1 (mC (.int 0)))
    (mSeq (mFor (mSeqOf (mVar 0)) (gNm 2)
    (mSet 1 (mOp gAddA (mOp gMulA (mC (.int 2)) (mVar 1)) (mVar 2))))
    (mRet (mVar 1))))
def m__law_place : List PV → Store → Res PV := mDef 3 b__law_place
def b__law_six : Rho → Store → Res Out :=
  (mRet (mFrz (mArgs gLst (mCons (mArgs gTup (mCons (mC (.str "all no")) (mCons (mArgs gTup (mCons (mC (.int 0)) (mCons (mC (.int 0)) mNil))) mNil))) (mCons (mArgs gTup (mCons (mC (.str "all yes")) (mCons (mArgs gTup (mCons (mC (.int 1)) (mCons (mC (.int 1)) mNil))) mNil))) (mCons (mArgs gTup (mCons (mC (.str "and")) (mCons (mArgs gTup (mCons (mC (.int 0)) (mCons (mC (.int 0)) (mCons (mC (.int 0)) (mCons (mC (.int 1)) mNil))))) mNil))) (mCons (mArgs gTup (mCons (mC (.str "or")) (mCons (mArgs gTup (mCons (mC (.int 0)) (mCons (mC (.int 1)) (mCons (mC (.int 1)) (mCons (mC (.int 1)) mNil))))) mNil))) (mCons (mArgs gTup (mCons (mC (.str "majority")) (mCons (mArgs gTup (mCons (mC (.int 0)) (mCons (mC (.int 0)) (mCons (mC (.int 0)) (mCons (mC (.int 1)) (mCons (mC (.int 0)) (mCons (mC (.int 1)) (mCons (mC (.int 1)) (mCons (mC (.int 1)) mNil))))))))) mNil))) (mCons (mArgs gTup (mCons (mC (.str "odd one")) (mCons (mArgs gTup (mCons (mC (.int 0)) (mCons (mC (.int 1)) (mCons (mC (.int 1)) (mCons (mC (.int 0)) (mCons (mC (.int 1)) (mCons (mC (.int 0)) (mCons (mC (.int 0)) (mCons (mC (.int 1)) mNil))))))))) mNil))) mNil)))))))))
def m__law_six : List PV → Store → Res PV := mDef 0 b__law_six
def b__law_places_of : Rho → Store → Res Out :=
  (mRet (mOp gIx (mFrz (mArgs gLst (mCons (mC (.int 1)) (mCons (mC (.int 2)) (mCons (mC (.int 3)) (mCons (mC (.int 4)) mNil)))))) (mIndex (mFrz (mArgs gLst (mCons (mC (.int 2)) (mCons (mC (.int 4)) (mCons (mC (.int 8)) (mCons (mC (.int 16)) mNil)))))) (mCons (mArgs gLen (mCons (mVar 0) mNil)) mNil))))
def m__law_places_of : List PV → Store → Res PV := mDef 1 b__law_places_of
def b__law_term_table (self : List PV → Store → Res PV) : Rho → Store → Res Out :=
  (mSeq (mIfS (mB (mIsi "int" (mVar 1)))
    (mRet (mArgs gTuple (mCons (mFrz (mLc (mSeqOf (mCall 1 m__law_every [] (mCons (mC (.int 3)) mNil))) (gNm 5) mTrue (mOp gIx (mVar 5) (mVar 1)) [5])) mNil)))
    mSkip)
    (mSeq (mSet 2 (mFrz (mLc (mSeqOf (mVar 1)) (gNm 3) mTrue (mCall 2 self [] (mCons (mVar 0) (mCons (mVar 3) mNil))) [3])))
    (mRet (mArgs gTuple (mCons (mFrz (mLc (mRange gRange1 (mCons (mC (.int 8)) mNil)) (gNm 4) mTrue (mOp gIx (mVar 0) (mCall 1 m__law_place [] (mCons (mFrz (mLc (mSeqOf (mVar 2)) (gNm 3) mTrue (mOp gIx (mVar 3) (mVar 4)) [3])) mNil))) [4])) mNil)))))
def m__law_term_table : Nat → List PV → Store → Res PV
  | 0 => fun _ _ => .bad
  | n + 1 => mDef 6 (b__law_term_table (m__law_term_table n))
def b__law_is_term (self : List PV → Store → Res PV) : Rho → Store → Res Out :=
  (mSeq (mIfS (mAnd (mB (mIsi "int" (mVar 0))) (mNot (mB (mIsi "bool" (mVar 0)))))
    (mRet (mOp (gInD false) (mVar 0) (mFrz (mArgs gLst (mCons (mC (.int 0)) (mCons (mC (.int 1)) (mCons (mC (.int 2)) mNil)))))))
    mSkip)
    (mSeq (mIfS (mOr (mB (mOp (gEqD false) (mVar 1) (mC (.int 0)))) (mOr (mNot (mB (mIsi "tuple" (mVar 0)))) (mB (mOp (gEqD true) (mArgs gLen (mCons (mVar 0) mNil)) (mC (.int 3))))))
    (mRet (mC (.bl false)))
    mSkip)
    (mRet (mArgs gAll (mCons (mFrz (mLc (mSeqOf (mVar 0)) (gNm 2) mTrue (mCall 2 self [] (mCons (mVar 2) (mCons (mOp gSub (mVar 1) (mC (.int 1))) mNil))) [2])) mNil)))))
def m__law_is_term : Nat → List PV → Store → Res PV
  | 0 => fun _ _ => .bad
  | n + 1 => mDef 3 (b__law_is_term (m__law_is_term n))
def b__law_is_plain : Rho → Store → Res Out :=
  (mSeq (mFor (mRange gRange1 (mCons (mC (.int 3)) mNil)) (gNm 1)
    (mSeq (mSet 2 (mArgs gTuple (mCons (mFrz (mLc (mSeqOf (mCall 1 m__law_every [] (mCons (mC (.int 3)) mNil))) (gNm 3) mTrue (mOp gIx (mVar 3) (mVar 1)) [3])) mNil)))
    (mIfS (mB (mOp (gInD false) (mVar 0) (mFrz (mArgs gLst (mCons (mVar 2) (mCons (mArgs gTuple (mCons (mFrz (mLc (mSeqOf (mVar 2)) (gNm 4) mTrue (mOp gSub (mC (.int 1)) (mVar 4)) [4])) mNil)) mNil))))))
    (mRet (mC (.bl true)))
    mSkip)))
    (mRet (mC (.bl false))))
def m__law_is_plain : List PV → Store → Res PV := mDef 5 b__law_is_plain
def b__law_widened : Rho → Store → Res Out :=
  (mRet (mArgs gTuple (mCons (mFrz (mLc (mSeqOf (mCall 1 m__law_every [] (mCons (mC (.int 3)) mNil))) (gNm 2) mTrue (mOp gIx (mVar 0) (mCall 1 m__law_place [] (mCons (mSl gSl (mVar 2) (fun _ S => .ok none S) (mPart (mVar 1))) mNil))) [2])) mNil)))
def m__law_widened : List PV → Store → Res PV := mDef 3 b__law_widened
def b__law_claim_holds : Rho → Store → Res Out :=
  (mSeq (mIfS (mOr (mNot (mB (mIsi "tuple" (mVar 1)))) (mOr (mB (mOp (gEqD true) (mArgs gLen (mCons (mVar 1) mNil)) (mC (.int 2)))) (mNot (mB (mIsi "str" (mOp gIx (mVar 1) (mC (.int 0))))))))
    (mRet (mC (.bl false)))
    mSkip)
    (mSeq (mSet 2 (mFrz (mLc (mSeqOf (mCall 0 m__law_six [] mNil)) (gTupM 2 (gsCons (gNm 3) (gsCons (gNm 4) gsNil))) (mB (mOp (gEqD false) (mVar 3) (mOp gIx (mVar 1) (mC (.int 0))))) (mVar 4) [3, 4])))
    (mSeq (mIfS (mOr (mB (mOp (gEqD false) (mArgs gLen (mCons (mVar 2) mNil)) (mC (.int 0)))) (mNot (mB (mCall 2 (m__law_is_term 20) [] (mCons (mOp gIx (mVar 1) (mC (.int 1))) (mCons (mC (.int 12)) mNil))))))
    (mRet (mC (.bl false)))
    mSkip)
    (mRet (mOp (gEqD false) (mCall 2 (m__law_term_table 20) [] (mCons (mVar 0) (mCons (mOp gIx (mVar 1) (mC (.int 1))) mNil))) (mCall 2 m__law_widened [] (mCons (mOp gIx (mVar 2) (mC (.int 0))) (mCons (mCall 1 m__law_places_of [] (mCons (mOp gIx (mVar 2) (mC (.int 0))) mNil)) mNil))))))))
def m__law_claim_holds : List PV → Store → Res PV := mDef 5 b__law_claim_holds
def b__law_drawn_term (self : List PV → Store → Res PV) : Rho → Store → Res Out :=
  (mSeq (mIfS (mOr (mB (mOp (gEqD false) (mVar 1) (mC (.int 0)))) (mB (mOp (gEqD false) (mCall 2 m__law_take [] (mCons (mVar 0) (mCons (mC (.int 3)) mNil))) (mC (.int 0)))))
    (mRet (mCall 2 m__law_take [] (mCons (mVar 0) (mCons (mC (.int 3)) mNil))))
    mSkip)
    (mRet (mArgs gTuple (mCons (mFrz (mLc (mRange gRange1 (mCons (mC (.int 3)) mNil)) (gNm 2) mTrue (mCall 2 self [] (mCons (mVar 0) (mCons (mOp gSub (mVar 1) (mC (.int 1))) mNil))) [2])) mNil))))
def m__law_drawn_term : Nat → List PV → Store → Res PV
  | 0 => fun _ _ => .bad
  | n + 1 => mDef 3 (b__law_drawn_term (m__law_drawn_term n))
def b__law_odd : Rho → Store → Res Out :=
  (mRet (mOp gIx (mFrz (mArgs gLst (mCons (mC .non) (mCons (mC (.bl true)) (mCons (mUn gNeg (mC (.int 1))) (mCons (mC (.str "0")) (mCons (mArgs gTup mNil) (mCons (mFrz (mArgs gLst mNil)) (mCons (mC (.int 7)) (mCons (mC (.str "")) (mCons (mArgs gTup (mCons (mC (.int 0)) mNil)) (mCons (mC (.bl false)) (mCons (mOp gPow (mC (.int 10)) (mC (.int 20))) mNil))))))))))))) (mCall 2 m__law_take [] (mCons (mVar 0) (mCons (mC (.int 11)) mNil)))))
def m__law_odd : List PV → Store → Res PV := mDef 1 b__law_odd
def b__law_told : Rho → Store → Res Out :=
  (mTryL 2 3
    (mRet (mArgs gTup (mCons (mC (.str "table")) (mCons (mCall 2 m_term_table [] (mCons (mVar 0) (mCons (mVar 1) mNil))) mNil))))
    [([("InvalidTable", true), ("Undefined", false)], (mRet (mArgs gTup (mCons (mC (.str "wrong")) (mCons (mArgs gRepr (mCons (mFld 2 ["InvalidTable"] "value") mNil)) (mCons (mXis 2 [("InvalidTable", true), ("Undefined", true)]) mNil)))))), ([("InvalidTable", false), ("Undefined", true)], (mRet (mArgs gTup (mCons (mC (.str "none")) (mCons (mFld 2 ["Undefined"] "what") (mCons (mXis 2 [("InvalidTable", true), ("Undefined", true)]) mNil))))))])
def m__law_told : List PV → Store → Res PV := mDef 3 b__law_told
def b__law_deep : Rho → Store → Res Out :=
  (mSeq (mSet 2 (mCall 2 m__law_take [] (mCons (mVar 0) (mCons (mC (.int 3)) mNil))))
    (mSeq (mFor (mRange gRange1 (mCons (mVar 1) mNil)) (gNm 3)
    (mSet 2 (mOp gIx (mFrz (mArgs gLst (mCons (mArgs gTup (mCons (mVar 2) (mCons (mC (.int 0)) (mCons (mC (.int 1)) mNil)))) (mCons (mArgs gTup (mCons (mC (.int 2)) (mCons (mVar 2) (mCons (mC (.int 2)) mNil)))) (mCons (mArgs gTup (mCons (mC (.int 1)) (mCons (mC (.int 0)) (mCons (mVar 2) mNil)))) mNil))))) (mCall 2 m__law_take [] (mCons (mVar 0) (mCons (mC (.int 3)) mNil))))))
    (mRet (mVar 2))))
def m__law_deep : List PV → Store → Res PV := mDef 4 b__law_deep
def b__law_chain : Rho → Store → Res Out :=
  (mSeq (mSet 2 (mArgs gTup (mCons (mC (.int 0)) (mCons (mC (.int 1)) (mCons (mC (.int 2)) mNil)))))
    (mSeq (mFor (mRange gRange1 (mCons (mOp gAddA (mC (.int 10)) (mCall 2 m__law_take [] (mCons (mVar 0) (mCons (mC (.int 4)) mNil)))) mNil)) (gNm 3)
    (mSet 2 (mArgs gTup (mCons (mVar 2) (mCons (mC (.int 0)) (mCons (mArgs gInt (mCons (mOp (gEqD true) (mVar 1) (mC (.str "odd one"))) mNil)) mNil))))))
    (mRet (mVar 2))))
def m__law_chain : List PV → Store → Res PV := mDef 4 b__law_chain
def b__law_size (self : List PV → Store → Res PV) : Rho → Store → Res Out :=
  (mSeq (mIfS (mB (mIsi "int" (mVar 0)))
    (mRet (mC (.int 1)))
    mSkip)
    (mRet (mArgs gSum (mCons (mFrz (mLc (mSeqOf (mVar 0)) (gNm 1) mTrue (mCall 1 self [] (mCons (mVar 1) mNil)) [1])) mNil))))
def m__law_size : Nat → List PV → Store → Res PV
  | 0 => fun _ _ => .bad
  | n + 1 => mDef 2 (b__law_size (m__law_size n))
def b__law_bent : Rho → Store → Res Out :=
  (mSeq (mSetOwn 2 (mArgs gLst mNil))
    (mSeq (mFor (mRange gRange1 (mCons (mCall 2 m__law_take [] (mCons (mVar 0) (mCons (mC (.int 4)) mNil))) mNil)) (gNm 3)
    (mIfS (mB (mIsi "tuple" (mVar 1)))
    (mSeq (mSet 7 (mCall 2 m__law_take [] (mCons (mVar 0) (mCons (mC (.int 3)) mNil))))
    (mSeq (mAppend 2 (mArgs gTup (mCons (mVar 1) (mCons (mVar 7) mNil))))
    (mSet 1 (mOp gIx (mVar 1) (mVar 7)))))
    mSkip))
    (mFrzS 2 (mSeq (mSet 4 (mFrz (mArgs gLst (mCons (mC (.int 3)) (mCons (mUn gNeg (mC (.int 1))) (mCons (mC (.bl true)) (mCons (mC .non) (mCons (mC (.str "0")) (mCons (mArgs gTup mNil) (mCons (mArgs gTup (mCons (mC (.int 0)) (mCons (mC (.int 1)) mNil))) (mCons (mArgs gTup (mCons (mC (.int 0)) (mCons (mC (.int 1)) (mCons (mC (.int 2)) (mCons (mC (.int 0)) mNil))))) (mCons (mFrz (mArgs gLst (mCons (mC (.int 0)) (mCons (mC (.int 1)) (mCons (mC (.int 2)) mNil))))) (mCons (mC (.int 0)) (mCons (mC (.int 1)) (mCons (mC (.int 2)) (mCons (mArgs gTup (mCons (mC (.int 0)) (mCons (mC (.int 0)) (mCons (mC (.int 1)) mNil)))) (mCons (mArgs gTup (mCons (mC (.int 2)) (mCons (mC (.int 1)) (mCons (mC (.int 0)) mNil)))) mNil)))))))))))))))))
    (mSeq (mSet 5 (mOp gIx (mVar 4) (mCall 2 m__law_take [] (mCons (mVar 0) (mCons (mC (.int 14)) mNil)))))
    (mSeq (mFor (mRange gRange1 (mCons (mArgs gLen (mCons (mVar 2) mNil)) mNil)) (gNm 3)
    (mSeq (mAsg (mOp gIx (mVar 2) (mOp gSub (mOp gSub (mArgs gLen (mCons (mVar 2) mNil)) (mC (.int 1))) (mVar 3))) (gUn 2 (gsCons (gNm 6) (gsCons (gNm 7) gsNil))))
    (mSet 5 (mOp gAddA (mOp gAddA (mSl gSl (mVar 6) (fun _ S => .ok none S) (mPart (mVar 7))) (mArgs gTup (mCons (mVar 5) mNil))) (mSl gSl (mVar 6) (mPart (mOp gAddA (mVar 7) (mC (.int 1)))) (fun _ S => .ok none S))))))
    (mRet (mVar 5))))))))
def m__law_bent : List PV → Store → Res PV := mDef 8 b__law_bent
def b__law_terms_told : Rho → Store → Res Out :=
  (mSeq (mFor (mRange gRange1 (mCons (mC (.int 4)) mNil)) (gNm 2)
    (mSeq (mSet 3 (mOp gIx (mFrz (mArgs gLst (mCons (mCall 2 (m__law_drawn_term 6) [] (mCons (mVar 0) (mCons (mC (.int 3)) mNil))) (mCons (mCall 2 m__law_deep [] (mCons (mVar 0) (mCons (mOp gAddA (mC (.int 11)) (mCall 2 m__law_take [] (mCons (mVar 0) (mCons (mC (.int 4)) mNil)))) mNil))) mNil)))) (mArgs gInt (mCons (mOp (gEqD false) (mVar 2) (mC (.int 3))) mNil))))
    (mSeq (mIfS (mAnd (mB (mOp gGt (mVar 2) (mC (.int 0)))) (mB (mOp gLt (mVar 2) (mC (.int 3)))))
    (mSet 3 (mCall 2 m__law_bent [] (mCons (mVar 0) (mCons (mVar 3) mNil))))
    mSkip)
    (mSeq (mSet 4 (mCall 2 m__law_told [] (mCons (mVar 1) (mCons (mVar 3) mNil))))
    (mIfS (mB (mCall 2 (m__law_is_term 20) [] (mCons (mVar 3) (mCons (mC (.int 12)) mNil))))
    (mIfS (mB (mOp (gEqD true) (mArgs gRepr (mCons (mVar 4) mNil)) (mArgs gRepr (mCons (mArgs gTup (mCons (mC (.str "table")) (mCons (mCall 2 (m__law_term_table 20) [] (mCons (mVar 1) (mCons (mVar 3) mNil))) mNil))) mNil))))
    (mRet (mC (.bl false)))
    mSkip)
    (mIfS (mB (mOp (gEqD true) (mVar 4) (mArgs gTup (mCons (mC (.str "none")) (mCons (mC (.str "term")) (mCons (mC (.bl true)) mNil))))))
    (mRet (mC (.bl false)))
    mSkip))))))
    (mRet (mC (.bl true))))
def m__law_terms_told : List PV → Store → Res PV := mDef 5 b__law_terms_told
def b__law_claims : Rho → Store → Res Out :=
  (mSeq (mSet 2 (mOp gIx (mFrz (mLc (mSeqOf (mCall 0 m__law_six [] mNil)) (gTupM 2 (gsCons (gNm 2) (gsCons (gNm 4) gsNil))) mTrue (mVar 2) [2, 4])) (mCall 2 m__law_take [] (mCons (mVar 0) (mCons (mC (.int 6)) mNil)))))
    (mSeq (mSet 3 (mFrz (mArgs gLst (mCons (mArgs gTup (mCons (mVar 2) (mCons (mCall 2 (m__law_drawn_term 6) [] (mCons (mVar 0) (mCons (mC (.int 2)) mNil))) mNil))) (mCons (mArgs gTup (mCons (mVar 2) (mCons (mCall 2 (m__law_drawn_term 6) [] (mCons (mVar 0) (mCons (mC (.int 3)) mNil))) mNil))) (mCons (mArgs gTup (mCons (mC (.int 0)) (mCons (mC (.int 1)) mNil))) (mCons (mArgs gTup (mCons (mVar 2) mNil)) (mCons (mC .non) (mCons (mVar 2) (mCons (mArgs gTup mNil) (mCons (mC (.int 0)) mNil)))))))))))
    (mSeq (mSetOwn 3 (mOp gCat (mVar 3) (mFrz (mArgs gLst (mCons (mArgs gTup (mCons (mFrz (mArgs gLst mNil)) (mCons (mC (.int 0)) mNil))) (mCons (mArgs gTup (mCons (mFrz (mArgs gLst (mCons (mC (.str "and")) mNil))) (mCons (mC (.int 0)) mNil))) (mCons (mArgs gTup (mCons (mArgs gTup (mCons (mVar 2) mNil)) (mCons (mArgs gTup (mCons (mC (.int 0)) (mCons (mC (.int 1)) (mCons (mC (.int 2)) mNil)))) mNil))) (mCons (mArgs gTup (mCons (mC .non) (mCons (mArgs gTup (mCons (mC (.int 0)) (mCons (mC (.int 1)) (mCons (mC (.int 2)) mNil)))) mNil))) mNil))))))))
    (mSeq (mFor (mSeqOf (mCall 0 m__law_six [] mNil)) (gUn 2 (gsCons (gNm 2) (gsCons (gNm 4) gsNil)))
    (mIfS (mB (mOp (gEqD false) (mVar 1) (mCall 2 m__law_widened [] (mCons (mVar 4) (mCons (mCall 1 m__law_places_of [] (mCons (mVar 4) mNil)) mNil)))))
    (mAppend 3 (mArgs gTup (mCons (mVar 2) (mCons (mCall 2 m__law_chain [] (mCons (mVar 0) (mCons (mVar 2) mNil))) mNil))))
    mSkip))
    (mFrzS 3 (mSeq (mIfS (mNot (mB (mCall 1 m__law_is_plain [] (mCons (mVar 1) mNil))))
    (mSeq (mAsg (mCall 1 m_term_of [] (mCons (mVar 1) mNil)) (gUn 2 (gsCons (gNm 2) (gsCons (gNm 5) gsNil))))
    (mSeq (mSet 6 (mOp gIx (mFrz (mLc (mSeqOf (mCall 0 m__law_six [] mNil)) (gTupM 2 (gsCons (gNm 4) (gsCons (gNm 7) gsNil))) mTrue (mVar 4) [4, 7])) (mCall 2 m__law_take [] (mCons (mVar 0) (mCons (mC (.int 6)) mNil)))))
    (mSeq (mSet 3 (mOp gAddA (mVar 3) (mFrz (mArgs gLst (mCons (mArgs gTup (mCons (mVar 2) (mCons (mVar 5) mNil))) (mCons (mArgs gTup (mCons (mVar 6) (mCons (mVar 5) mNil))) (mCons (mFrz (mArgs gLst (mCons (mVar 2) (mCons (mVar 5) mNil)))) (mCons (mArgs gTup (mCons (mVar 2) (mCons (mVar 5) (mCons (mC (.int 0)) mNil)))) (mCons (mArgs gTup (mCons (mOp gAddA (mVar 2) (mC (.str " "))) (mCons (mVar 5) mNil))) mNil)))))))))
    (mSeq (mSet 3 (mOp gAddA (mVar 3) (mFrz (mArgs gLst (mCons (mArgs gTup (mCons (mVar 5) (mCons (mVar 2) mNil))) (mCons (mArgs gTup (mCons (mC .non) (mCons (mVar 5) mNil))) (mCons (mArgs gTup (mCons (mVar 2) (mCons (mFrz (mArgs gLst (mCons (mVar 5) mNil))) mNil))) mNil)))))))
    (mIfS (mB (mOp gLt (mCall 1 (m__law_size 20) [] (mCons (mVar 5) mNil)) (mC (.int 334))))
    (mSet 3 (mOp gAddA (mVar 3) (mFrz (mArgs gLst (mCons (mArgs gTup (mCons (mVar 2) (mCons (mCall 2 m__law_bent [] (mCons (mVar 0) (mCons (mVar 5) mNil))) mNil))) (mCons (mArgs gTup (mCons (mVar 2) (mCons (mArgs gTup (mCons (mVar 5) (mCons (mVar 5) (mCons (mVar 5) mNil)))) mNil))) mNil))))))
    mSkip)))))
    mSkip)
    (mRet (mVar 3))))))))
def m__law_claims : List PV → Store → Res PV := mDef 8 b__law_claims
def b_law : Rho → Store → Res Out :=
  (mSeq (mShare 1 (mArgs gLst (mCons (mCall 2 m__law_draws [] (mCons (mVar 0) (mCons (mC (.int 300)) mNil))) (mCons (mC (.int 0)) mNil))))
    (mSeq (mSet 2 (mCall 2 m__law_take [] (mCons (mVar 1) (mCons (mC (.int 256)) mNil))))
    (mSeq (mSet 3 (mArgs gTuple (mCons (mFrz (mLc (mRange gRange1 (mCons (mC (.int 8)) mNil)) (gNm 9) mTrue (mOp gMod (mArgs gInt (mCons (mOp gFdiv (mVar 2) (mOp gShl (mC (.int 1)) (mVar 9))) mNil)) (mC (.int 2))) [9])) mNil)))
    (mSeq (mIfS (mB (mOp (gEqD false) (mCall 2 m__law_take [] (mCons (mVar 1) (mCons (mC (.int 3)) mNil))) (mC (.int 0))))
    (mSeq (mAsg (mOp gIx (mCall 0 m__law_six [] mNil) (mCall 2 m__law_take [] (mCons (mVar 1) (mCons (mC (.int 6)) mNil)))) (gUn 2 (gsCons (gNm 6) (gsCons (gNm 7) gsNil))))
    (mSet 3 (mCall 2 m__law_widened [] (mCons (mVar 7) (mCons (mCall 1 m__law_places_of [] (mCons (mVar 7) mNil)) mNil)))))
    mSkip)
    (mSeq (mIfS (mNot (mB (mCall 2 m__law_terms_told [] (mCons (mVar 1) (mCons (mVar 3) mNil)))))
    (mRet (mC (.bl false)))
    mSkip)
    (mSeq (mFor (mSeqOf (mCall 2 m__law_claims [] (mCons (mVar 1) (mCons (mVar 3) mNil)))) (gNm 4)
    (mSeq (mSet 8 (mCall 2 m_term_holds [] (mCons (mVar 3) (mCons (mVar 4) mNil))))
    (mIfS (mOr (mNot (mB (mIsi "bool" (mVar 8)))) (mB (mOp (gEqD true) (mVar 8) (mCall 2 m__law_claim_holds [] (mCons (mVar 3) (mCons (mVar 4) mNil))))))
    (mRet (mC (.bl false)))
    mSkip)))
    (mSeq (mSet 5 (mOp gIx (mFrz (mArgs gLst (mCons (mSl gSl (mVar 3) (fun _ S => .ok none S) (mPart (mC (.int 4)))) (mCons (mFrz (mArgs gList (mCons (mVar 3) mNil))) (mCons (mOp gAddA (mVar 3) (mArgs gTup (mCons (mC (.int 0)) mNil))) (mCons (mOp gAddA (mSl gSl (mVar 3) (fun _ S => .ok none S) (mPart (mC (.int 7)))) (mArgs gTup (mCons (mC (.bl false)) mNil))) (mCons (mCall 1 m__law_odd [] (mCons (mVar 1) mNil)) mNil))))))) (mCall 2 m__law_take [] (mCons (mVar 1) (mCons (mC (.int 5)) mNil)))))
    (mRet (mOp (gEqD false) (mCall 2 m__law_told [] (mCons (mVar 5) (mCons (mOp gIx (mFrz (mArgs gLst (mCons (mC (.int 0)) (mCons (mC .non) mNil)))) (mCall 2 m__law_take [] (mCons (mVar 1) (mCons (mC (.int 2)) mNil)))) mNil))) (mArgs gTup (mCons (mC (.str "wrong")) (mCons (mArgs gRepr (mCons (mVar 5) mNil)) (mCons (mC (.bl true)) mNil)))))))))))))
def m_law : List PV → Store → Res PV := mDef 10 b_law
/-! ### what the top has left -/
abbrev si_InvalidTable : Stmt := clsStmt (topS 2) 0
theorem sci_InvalidTable : FnScope ["self", "value"] ["self", "value"] (defScope si_InvalidTable) := ⟨rfl, rfl, rfl, by decide +kernel, rfl, by decide +kernel, by decide +kernel⟩
abbrev si_Undefined : Stmt := clsStmt (topS 3) 0
theorem sci_Undefined : FnScope ["self", "what"] ["self", "what"] (defScope si_Undefined) := ⟨rfl, rfl, rfl, by decide +kernel, rfl, by decide +kernel, by decide +kernel⟩
structure Tx (w : World) (K : PySem.W.Frag) (mg : Str → Option Value) where
  C_InvalidTable : Addr
  I_InvalidTable : Addr
  di_InvalidTable : FuncData
  x_InvalidTable : XCls K mg "InvalidTable" C_InvalidTable I_InvalidTable ["value"]
  Fi_InvalidTable : Fun K "__init__" "InvalidTable.__init__" si_InvalidTable I_InvalidTable di_InvalidTable
  bi_InvalidTable : Binds K di_InvalidTable ["self", "value"] []
  C_Undefined : Addr
  I_Undefined : Addr
  di_Undefined : FuncData
  x_Undefined : XCls K mg "Undefined" C_Undefined I_Undefined ["what"]
  Fi_Undefined : Fun K "__init__" "Undefined.__init__" si_Undefined I_Undefined di_Undefined
  bi_Undefined : Binds K di_Undefined ["self", "what"] []
  C_CellError : Addr
  g_CellError : mg "CellError" = some (.ref C_CellError)
  em_InvalidTable_InvalidTable : PySem.W.exmOne K (.ref C_InvalidTable) (.ref C_InvalidTable) = some true
  em_InvalidTable_Undefined : PySem.W.exmOne K (.ref C_InvalidTable) (.ref C_Undefined) = some false
  em_Undefined_InvalidTable : PySem.W.exmOne K (.ref C_Undefined) (.ref C_InvalidTable) = some false
  em_Undefined_Undefined : PySem.W.exmOne K (.ref C_Undefined) (.ref C_Undefined) = some true
  kt_0 : PySem.W.kitOne K (.ref C_InvalidTable) (.ref C_CellError) = some true
  kt_1 : PySem.W.kitOne K (.ref C_Undefined) (.ref C_CellError) = some true
  a_TABLES : Addr
  d_TABLES : CDict K w mg "TABLES" a_TABLES c_TABLES
  f_is_bit : Addr
  d_is_bit : FuncData
  F_is_bit : Fun K "is_bit" "is_bit" s_is_bit f_is_bit d_is_bit
  g_is_bit : mg "is_bit" = some (.ref f_is_bit)
  b_is_bit : Binds K d_is_bit ["value"] []
  f_is_table : Addr
  d_is_table : FuncData
  F_is_table : Fun K "is_table" "is_table" s_is_table f_is_table d_is_table
  g_is_table : mg "is_table" = some (.ref f_is_table)
  b_is_table : Binds K d_is_table ["value", "m"] []
  f_table_of : Addr
  d_table_of : FuncData
  F_table_of : Fun K "table_of" "table_of" s_table_of f_table_of d_table_of
  g_table_of : mg "table_of" = some (.ref f_table_of)
  b_table_of : Binds K d_table_of ["word"] []
  f_widened : Addr
  d_widened : FuncData
  F_widened : Fun K "widened" "widened" s_widened f_widened d_widened
  g_widened : mg "widened" = some (.ref f_widened)
  b_widened : Binds K d_widened ["table"] []
  f__is_term : Addr
  d__is_term : FuncData
  F__is_term : Fun K "_is_term" "_is_term" s__is_term f__is_term d__is_term
  g__is_term : mg "_is_term" = some (.ref f__is_term)
  b__is_term : Binds K d__is_term ["value", "left"] []
  f_put_in : Addr
  d_put_in : FuncData
  F_put_in : Fun K "put_in" "put_in" s_put_in f_put_in d_put_in
  g_put_in : mg "put_in" = some (.ref f_put_in)
  b_put_in : Binds K d_put_in ["table", "parts"] []
  f__told : Addr
  d__told : FuncData
  F__told : Fun K "_told" "_told" s__told f__told d__told
  g__told : mg "_told" = some (.ref f__told)
  b__told : Binds K d__told ["table", "term"] []
  f_term_table : Addr
  d_term_table : FuncData
  F_term_table : Fun K "term_table" "term_table" s_term_table f_term_table d_term_table
  g_term_table : mg "term_table" = some (.ref f_term_table)
  b_term_table : Binds K d_term_table ["table", "term"] []
  f_turned : Addr
  d_turned : FuncData
  F_turned : Fun K "turned" "turned" s_turned f_turned d_turned
  g_turned : mg "turned" = some (.ref f_turned)
  b_turned : Binds K d_turned ["table"] []
  f_is_plain : Addr
  d_is_plain : FuncData
  F_is_plain : Fun K "is_plain" "is_plain" s_is_plain f_is_plain d_is_plain
  g_is_plain : mg "is_plain" = some (.ref f_is_plain)
  b_is_plain : Binds K d_is_plain ["table"] []
  f__applied : Addr
  d__applied : FuncData
  F__applied : Fun K "_applied" "_applied" s__applied f__applied d__applied
  g__applied : mg "_applied" = some (.ref f__applied)
  b__applied : Binds K d__applied ["turns", "parts"] []
  f__readings : Addr
  d__readings : FuncData
  F__readings : Fun K "_readings" "_readings" s__readings f__readings d__readings
  g__readings : mg "_readings" = some (.ref f__readings)
  b__readings : Binds K d__readings ["table"] []
  f_term_of : Addr
  d_term_of : FuncData
  F_term_of : Fun K "term_of" "term_of" s_term_of f_term_of d_term_of
  g_term_of : mg "term_of" = some (.ref f_term_of)
  b_term_of : Binds K d_term_of ["table"] []
  f_term_holds : Addr
  d_term_holds : FuncData
  F_term_holds : Fun K "term_holds" "term_holds" s_term_holds f_term_holds d_term_holds
  g_term_holds : mg "term_holds" = some (.ref f_term_holds)
  b_term_holds : Binds K d_term_holds ["table", "claim"] []
  f__law_draws : Addr
  d__law_draws : FuncData
  F__law_draws : Fun K "_law_draws" "_law_draws" s__law_draws f__law_draws d__law_draws
  g__law_draws : mg "_law_draws" = some (.ref f__law_draws)
  b__law_draws : Binds K d__law_draws ["script", "many"] []
  f__law_take : Addr
  d__law_take : FuncData
  F__law_take : Fun K "_law_take" "_law_take" s__law_take f__law_take d__law_take
  g__law_take : mg "_law_take" = some (.ref f__law_take)
  b__law_take : Binds K d__law_take ["hand", "many"] []
  f__law_every : Addr
  d__law_every : FuncData
  F__law_every : Fun K "_law_every" "_law_every" s__law_every f__law_every d__law_every
  g__law_every : mg "_law_every" = some (.ref f__law_every)
  b__law_every : Binds K d__law_every ["many"] []
  f__law_place : Addr
  d__law_place : FuncData
  F__law_place : Fun K "_law_place" "_law_place" s__law_place f__law_place d__law_place
  g__law_place : mg "_law_place" = some (.ref f__law_place)
  b__law_place : Binds K d__law_place ["row"] []
  f__law_six : Addr
  d__law_six : FuncData
  F__law_six : Fun K "_law_six" "_law_six" s__law_six f__law_six d__law_six
  g__law_six : mg "_law_six" = some (.ref f__law_six)
  b__law_six : Binds K d__law_six [] []
  f__law_places_of : Addr
  d__law_places_of : FuncData
  F__law_places_of : Fun K "_law_places_of" "_law_places_of" s__law_places_of f__law_places_of d__law_places_of
  g__law_places_of : mg "_law_places_of" = some (.ref f__law_places_of)
  b__law_places_of : Binds K d__law_places_of ["table"] []
  f__law_term_table : Addr
  d__law_term_table : FuncData
  F__law_term_table : Fun K "_law_term_table" "_law_term_table" s__law_term_table f__law_term_table d__law_term_table
  g__law_term_table : mg "_law_term_table" = some (.ref f__law_term_table)
  b__law_term_table : Binds K d__law_term_table ["table", "term"] []
  f__law_is_term : Addr
  d__law_is_term : FuncData
  F__law_is_term : Fun K "_law_is_term" "_law_is_term" s__law_is_term f__law_is_term d__law_is_term
  g__law_is_term : mg "_law_is_term" = some (.ref f__law_is_term)
  b__law_is_term : Binds K d__law_is_term ["value", "depth"] []
  f__law_is_plain : Addr
  d__law_is_plain : FuncData
  F__law_is_plain : Fun K "_law_is_plain" "_law_is_plain" s__law_is_plain f__law_is_plain d__law_is_plain
  g__law_is_plain : mg "_law_is_plain" = some (.ref f__law_is_plain)
  b__law_is_plain : Binds K d__law_is_plain ["table"] []
  f__law_widened : Addr
  d__law_widened : FuncData
  F__law_widened : Fun K "_law_widened" "_law_widened" s__law_widened f__law_widened d__law_widened
  g__law_widened : mg "_law_widened" = some (.ref f__law_widened)
  b__law_widened : Binds K d__law_widened ["table", "m"] []
  f__law_claim_holds : Addr
  d__law_claim_holds : FuncData
  F__law_claim_holds : Fun K "_law_claim_holds" "_law_claim_holds" s__law_claim_holds f__law_claim_holds d__law_claim_holds
  g__law_claim_holds : mg "_law_claim_holds" = some (.ref f__law_claim_holds)
  b__law_claim_holds : Binds K d__law_claim_holds ["table", "claim"] []
  f__law_drawn_term : Addr
  d__law_drawn_term : FuncData
  F__law_drawn_term : Fun K "_law_drawn_term" "_law_drawn_term" s__law_drawn_term f__law_drawn_term d__law_drawn_term
  g__law_drawn_term : mg "_law_drawn_term" = some (.ref f__law_drawn_term)
  b__law_drawn_term : Binds K d__law_drawn_term ["hand", "depth"] []
  f__law_odd : Addr
  d__law_odd : FuncData
  F__law_odd : Fun K "_law_odd" "_law_odd" s__law_odd f__law_odd d__law_odd
  g__law_odd : mg "_law_odd" = some (.ref f__law_odd)
  b__law_odd : Binds K d__law_odd ["hand"] []
  f__law_told : Addr
  d__law_told : FuncData
  F__law_told : Fun K "_law_told" "_law_told" s__law_told f__law_told d__law_told
  g__law_told : mg "_law_told" = some (.ref f__law_told)
  b__law_told : Binds K d__law_told ["table", "term"] []
  f__law_deep : Addr
  d__law_deep : FuncData
  F__law_deep : Fun K "_law_deep" "_law_deep" s__law_deep f__law_deep d__law_deep
  g__law_deep : mg "_law_deep" = some (.ref f__law_deep)
  b__law_deep : Binds K d__law_deep ["hand", "many"] []
  f__law_chain : Addr
  d__law_chain : FuncData
  F__law_chain : Fun K "_law_chain" "_law_chain" s__law_chain f__law_chain d__law_chain
  g__law_chain : mg "_law_chain" = some (.ref f__law_chain)
  b__law_chain : Binds K d__law_chain ["hand", "word"] []
  f__law_size : Addr
  d__law_size : FuncData
  F__law_size : Fun K "_law_size" "_law_size" s__law_size f__law_size d__law_size
  g__law_size : mg "_law_size" = some (.ref f__law_size)
  b__law_size : Binds K d__law_size ["term"] []
  f__law_bent : Addr
  d__law_bent : FuncData
  F__law_bent : Fun K "_law_bent" "_law_bent" s__law_bent f__law_bent d__law_bent
  g__law_bent : mg "_law_bent" = some (.ref f__law_bent)
  b__law_bent : Binds K d__law_bent ["hand", "term"] []
  f__law_terms_told : Addr
  d__law_terms_told : FuncData
  F__law_terms_told : Fun K "_law_terms_told" "_law_terms_told" s__law_terms_told f__law_terms_told d__law_terms_told
  g__law_terms_told : mg "_law_terms_told" = some (.ref f__law_terms_told)
  b__law_terms_told : Binds K d__law_terms_told ["hand", "table"] []
  f__law_claims : Addr
  d__law_claims : FuncData
  F__law_claims : Fun K "_law_claims" "_law_claims" s__law_claims f__law_claims d__law_claims
  g__law_claims : mg "_law_claims" = some (.ref f__law_claims)
  b__law_claims : Binds K d__law_claims ["hand", "table"] []
  f_law : Addr
  d_law : FuncData
  F_law : Fun K "law" "law" s_law f_law d_law
  g_law : mg "law" = some (.ref f_law)
  b_law : Binds K d_law ["script"] []
  n_abs : mg "abs" = none
  n_all : mg "all" = none
  n_bool : mg "bool" = none
  n_int : mg "int" = none
  n_isinstance : mg "isinstance" = none
  n_len : mg "len" = none
  n_list : mg "list" = none
  n_range : mg "range" = none
  n_repr : mg "repr" = none
  n_str : mg "str" = none
  n_sum : mg "sum" = none
  n_tuple : mg "tuple" = none
  v_DEEPEST : V
  u_DEEPEST : Value
  g_DEEPEST : mg "DEEPEST" = some u_DEEPEST
  r_DEEPEST : RelV v_DEEPEST u_DEEPEST
  y_DEEPEST : ∀ L Hc, RV K L Hc c_DEEPEST v_DEEPEST
  v_PLACES : V
  u_PLACES : Value
  g_PLACES : mg "PLACES" = some u_PLACES
  r_PLACES : RelV v_PLACES u_PLACES
  y_PLACES : ∀ L Hc, RV K L Hc c_PLACES v_PLACES
  v_SIZES : V
  u_SIZES : Value
  g_SIZES : mg "SIZES" = some u_SIZES
  r_SIZES : RelV v_SIZES u_SIZES
  y_SIZES : ∀ L Hc, RV K L Hc c_SIZES v_SIZES
/-! ### each def keeps to its mirror -/
section
variable {P : Program} {w : World} {K : PySem.W.Frag} {mg : Str → Option Value} {base : Heap}
theorem Tx.in_InvalidTable (T : Tx w K mg) : FnOk P w K mg base (L2.CX P w) 1 T.I_InvalidTable T.di_InvalidTable ["self", "value"] (spI1 K "value") := ok_init1 T.Fi_InvalidTable sci_InvalidTable rfl (fun _ _ _ _ => trivial) (fun _ _ _ _ _ _ => pv 0) (fun _ _ _ _ _ _ => pv 1) (fun _ => rfl)
theorem Tx.in_Undefined (T : Tx w K mg) : FnOk P w K mg base (L2.CX P w) 1 T.I_Undefined T.di_Undefined ["self", "what"] (spI1 K "what") := ok_init1 T.Fi_Undefined sci_Undefined rfl (fun _ _ _ _ => trivial) (fun _ _ _ _ _ _ => pv 0) (fun _ _ _ _ _ _ => pv 1) (fun _ => rfl)
theorem Tx.ok_is_bit (T : Tx w K mg) : FnG P w K mg base 1 T.f_is_bit T.d_is_bit ["value"] (spM K mg 1 m_is_bit) := by
  refine ok_def T.F_is_bit sc_is_bit fun cdv A outer s H E hgd hr => ?_
  have tk := takes_def (P := P) (w := w) (K := K) (mg := mg) (base := base) (N := ["value"]) (qual := "is_bit") (sc := defScope s_is_bit) (f := T.f_is_bit) (cd := cdv) (A := A) (outer := outer) (s := s) (H := H) (E := E)
  have hx := passes_call (E := E) tk (fun _ _ _ _ h => h)
  have hu := hu_of2 hr
  exact ⟨_, fun G => (fss_one (fs_ret (fe_and (ke_isi K (T := "int") T.n_isinstance T.n_int (fe_var (pv 0))) (fe_and (fe_not (ke_isi K (T := "bool") T.n_isinstance T.n_bool (fe_var (pv 0)))) (fe_one (fe_chain op_le op_le r2_le r2_le fe_int (fe_var (pv 0)) fe_int))))))⟩
theorem Tx.ok_is_table (T : Tx w K mg) : FnG P w K mg base 2 T.f_is_table T.d_is_table ["value", "m"] (spM K mg 2 m_is_table) := by
  refine ok_def T.F_is_table sc_is_table fun cdv A outer s H E hgd hr => ?_
  have tk := takes_def (P := P) (w := w) (K := K) (mg := mg) (base := base) (N := ["value", "m", "worth"]) (qual := "is_table") (sc := defScope s_is_table) (f := T.f_is_table) (cd := cdv) (A := A) (outer := outer) (s := s) (H := H) (E := E)
  have hx := passes_call (E := E) tk (fun _ _ _ _ h => h)
  have hu := hu_of2 hr
  exact ⟨_, fun G => (fss_cons (fs_if (FT.ofW (fw_or (ft_not (ft_val (ke_isi K (T := "tuple") T.n_isinstance T.n_tuple (fe_var (pv 0))))) (fw_or1 (ft_cmp (kNeD K hu) r2_neD (fe_callB (kLen K) ra_len T.n_len (fa_cons (fe_var (pv 0)) fa_nil)) (fe_ix (kIx K) r2_ix (fe_glob (by rfl) T.g_SIZES T.r_SIZES T.y_SIZES) (fe_var (pv 1)))))))
    (fss_one (fs_ret fe_bl))
    fss_nil)
    (fss_cons (fs_forV own_def rfl (it_seq K (fe_var (pv 0))) (fg_name (pg_name (i := 2) sc_is_table.nd rfl (by first | exact .inl rfl | exact .inr rfl)))
    (fss_one (fs_if (ft_not (ft_val (ke_call (T.ok_is_bit (P := P) (base := base)) hgd (hr.mono (by omega)) T.g_is_bit T.F_is_bit.kp T.b_is_bit hx (fa_cons (fe_var (pv 2)) fa_nil))))
    (fss_one (fs_ret fe_bl))
    fss_nil)))
    (fss_one (fs_ret fe_bl))))⟩
theorem Tx.ok_table_of (T : Tx w K mg) : FnG P w K mg base 3 T.f_table_of T.d_table_of ["word"] (spM K mg 1 m_table_of) := by
  refine ok_def T.F_table_of sc_table_of fun cdv A outer s H E hgd hr => ?_
  have tk := takes_def (P := P) (w := w) (K := K) (mg := mg) (base := base) (N := ["word"]) (qual := "table_of") (sc := defScope s_table_of) (f := T.f_table_of) (cd := cdv) (A := A) (outer := outer) (s := s) (H := H) (E := E)
  have hx := passes_call (E := E) tk (fun _ _ _ _ h => h)
  have hu := hu_of2 hr
  exact ⟨_, fun G => (fss_cons (fs_if (FT.ofW (fw_or (ft_not (ft_val (ke_isi K (T := "str") T.n_isinstance T.n_str (fe_var (pv 0))))) (fw_or1 (ft_knot K w T.d_TABLES (fe_var (pv 0))))))
    (fss_one (fs_raise1 T.x_Undefined (T.in_Undefined (P := P) (w := w) (base := base)) (hr.mono (by omega)) T.bi_Undefined rfl tk (fa_cons fe_str fa_nil)))
    fss_nil)
    (fss_one (fs_ret (fe_kget K w T.d_TABLES (fe_var (pv 0))))))⟩
theorem Tx.ok_widened (T : Tx w K mg) : FnG P w K mg base 1 T.f_widened T.d_widened ["table"] (spM K mg 1 m_widened) := by
  refine ok_def T.F_widened sc_widened fun cdv A outer s H E hgd hr => ?_
  have tk := takes_def (P := P) (w := w) (K := K) (mg := mg) (base := base) (N := ["table", "at"]) (qual := "widened") (sc := defScope s_widened) (f := T.f_widened) (cd := cdv) (A := A) (outer := outer) (s := s) (H := H) (E := E)
  have hx := passes_call (E := E) tk (fun _ _ _ _ h => h)
  have hu := hu_of2 hr
  exact ⟨_, fun G => (fss_one (fs_ret (fe_callTy (kTuple K) ra_tuple T.n_tuple (fa_cons (FN.fe (fn_lc [("at", 1)] rfl sc_widened.nd (blkOk_by (by kernel_rfl)) (fit_range1 T.n_range (fa_cons fe_int fa_nil)) (fun _ _ _ _ _ => (gt_name (pg_name (i := 1) sc_widened.nd rfl (by first | exact .inl rfl | exact .inr rfl)))) (fun _ _ _ _ _ => fts_nil) (fun _ _ _ _ _ => (fe_ix (kIx K) r2_ix (fe_var (pv 0)) (fe_op op_fdiv r2_fdiv (fe_var (pv 1)) (fe_op op_fdiv r2_fdiv fe_int (fe_callB (kLen K) ra_len T.n_len (fa_cons (fe_var (pv 0)) fa_nil)))))))) fa_nil))))⟩
theorem Tx.okR__is_term (T : Tx w K mg) : ∀ n, FnG P w K mg base (1 + n) T.f__is_term T.d__is_term ["value", "left"] (spM K mg 2 (m__is_term n))
  | 0 => fnG_bad rfl
  | n + 1 => by
    refine ok_def (k := 1 + n) T.F__is_term sc__is_term fun cdv A outer s H E hgd hr => ?_
    have tk := takes_def (P := P) (w := w) (K := K) (mg := mg) (base := base) (N := ["value", "left"]) (qual := "_is_term") (sc := defScope s__is_term) (f := T.f__is_term) (cd := cdv) (A := A) (outer := outer) (s := s) (H := H) (E := E)
    have hx := passes_call (E := E) tk (fun _ _ _ _ h => h)
    have hu := hu_of2 hr
    exact ⟨_, fun G => (fss_cons (fs_if (ft_val (ke_isi K (T := "int") T.n_isinstance T.n_int (fe_var (pv 0))))
    (fss_one (fs_ret (fe_and (fe_not (ke_isi K (T := "bool") T.n_isinstance T.n_bool (fe_var (pv 0)))) (fe_one (fe_chain op_le op_le r2_le r2_le fe_int (fe_var (pv 0)) fe_int)))))
    fss_nil)
    (fss_cons (fs_if (FT.ofW (fw_or (ft_not (ft_val (ke_isi K (T := "tuple") T.n_isinstance T.n_tuple (fe_var (pv 0))))) (fw_or (ft_cmp (kNeD K hu) r2_neD (fe_callB (kLen K) ra_len T.n_len (fa_cons (fe_var (pv 0)) fa_nil)) fe_int) (fw_or1 (ft_cmp (kEqD K hu) r2_eqD (fe_var (pv 1)) fe_int)))))
    (fss_one (fs_ret fe_bl))
    fss_nil)
    (fss_one (fs_ret (fe_and (ke_call (Tx.okR__is_term T n) hgd (hr.mono (by omega)) T.g__is_term T.F__is_term.kp T.b__is_term hx (fa_cons (fe_ix (kIx K) r2_ix (fe_var (pv 0)) fe_int) (fa_cons (fe_op op_sub r2_sub (fe_var (pv 1)) fe_int) fa_nil))) (fe_and (ke_call (Tx.okR__is_term T n) hgd (hr.mono (by omega)) T.g__is_term T.F__is_term.kp T.b__is_term hx (fa_cons (fe_ix (kIx K) r2_ix (fe_var (pv 0)) fe_int) (fa_cons (fe_op op_sub r2_sub (fe_var (pv 1)) fe_int) fa_nil))) (fe_one (ke_call (Tx.okR__is_term T n) hgd (hr.mono (by omega)) T.g__is_term T.F__is_term.kp T.b__is_term hx (fa_cons (fe_ix (kIx K) r2_ix (fe_var (pv 0)) fe_int) (fa_cons (fe_op op_sub r2_sub (fe_var (pv 1)) fe_int) fa_nil))))))))))⟩
theorem Tx.ok__is_term (T : Tx w K mg) : FnG P w K mg base 21 T.f__is_term T.d__is_term ["value", "left"] (spM K mg 2 (m__is_term 20)) := T.okR__is_term 20
theorem Tx.ok_put_in (T : Tx w K mg) : FnG P w K mg base 1 T.f_put_in T.d_put_in ["table", "parts"] (spM K mg 2 m_put_in) := by
  refine ok_def T.F_put_in sc_put_in fun cdv A outer s H E hgd hr => ?_
  have tk := takes_def (P := P) (w := w) (K := K) (mg := mg) (base := base) (N := ["table", "parts", "one", "two", "three", "at"]) (qual := "put_in") (sc := defScope s_put_in) (f := T.f_put_in) (cd := cdv) (A := A) (outer := outer) (s := s) (H := H) (E := E)
  have hx := passes_call (E := E) tk (fun _ _ _ _ h => h)
  have hu := hu_of2 hr
  exact ⟨_, fun G => (fss_cons (fs_asgT (fe_var (pv 1)) (gk_un K (fgs_cons (fg_name (pg_name (i := 2) sc_put_in.nd rfl (by first | exact .inl rfl | exact .inr rfl))) (fgs_cons (fg_name (pg_name (i := 3) sc_put_in.nd rfl (by first | exact .inl rfl | exact .inr rfl))) (fgs_cons (fg_name (pg_name (i := 4) sc_put_in.nd rfl (by first | exact .inl rfl | exact .inr rfl))) fgs_nil (pgs_cons (pg_name (i := 4) sc_put_in.nd rfl (by first | exact .inl rfl | exact .inr rfl)) pgs_nil)) (pgs_cons (pg_name (i := 3) sc_put_in.nd rfl (by first | exact .inl rfl | exact .inr rfl)) (pgs_cons (pg_name (i := 4) sc_put_in.nd rfl (by first | exact .inl rfl | exact .inr rfl)) pgs_nil))) (pgs_cons (pg_name (i := 2) sc_put_in.nd rfl (by first | exact .inl rfl | exact .inr rfl)) (pgs_cons (pg_name (i := 3) sc_put_in.nd rfl (by first | exact .inl rfl | exact .inr rfl)) (pgs_cons (pg_name (i := 4) sc_put_in.nd rfl (by first | exact .inl rfl | exact .inr rfl)) pgs_nil)))) (pg_tup rfl (pgs_cons (pg_name (i := 2) sc_put_in.nd rfl (by first | exact .inl rfl | exact .inr rfl)) (pgs_cons (pg_name (i := 3) sc_put_in.nd rfl (by first | exact .inl rfl | exact .inr rfl)) (pgs_cons (pg_name (i := 4) sc_put_in.nd rfl (by first | exact .inl rfl | exact .inr rfl)) pgs_nil)))) (pg_lst rfl (pgs_cons (pg_name (i := 2) sc_put_in.nd rfl (by first | exact .inl rfl | exact .inr rfl)) (pgs_cons (pg_name (i := 3) sc_put_in.nd rfl (by first | exact .inl rfl | exact .inr rfl)) (pgs_cons (pg_name (i := 4) sc_put_in.nd rfl (by first | exact .inl rfl | exact .inr rfl)) pgs_nil))))))
    (fss_one (fs_ret (fe_callTy (kTuple K) ra_tuple T.n_tuple (fa_cons (FN.fe (fn_lc [("at", 5)] rfl sc_put_in.nd (blkOk_by (by kernel_rfl)) (fit_range1 T.n_range (fa_cons fe_int fa_nil)) (fun _ _ _ _ _ => (gt_name (pg_name (i := 5) sc_put_in.nd rfl (by first | exact .inl rfl | exact .inr rfl)))) (fun _ _ _ _ _ => fts_nil) (fun _ _ _ _ _ => (fe_ix (kIx K) r2_ix (fe_var (pv 0)) (fe_op (kAdd K) r2_addA (fe_op (kAdd K) r2_addA (fe_op kMul r2_mulA fe_int (fe_ix (kIx K) r2_ix (fe_var (pv 2)) (fe_var (pv 5)))) (fe_op kMul r2_mulA fe_int (fe_ix (kIx K) r2_ix (fe_var (pv 3)) (fe_var (pv 5))))) (fe_ix (kIx K) r2_ix (fe_var (pv 4)) (fe_var (pv 5)))))))) fa_nil)))))⟩
theorem Tx.okR__told (T : Tx w K mg) : ∀ n, FnG P w K mg base (2 + n) T.f__told T.d__told ["table", "term"] (spM K mg 2 (m__told n))
  | 0 => fnG_bad rfl
  | n + 1 => by
    refine ok_def (k := 2 + n) T.F__told sc__told fun cdv A outer s H E hgd hr => ?_
    have tk := takes_def (P := P) (w := w) (K := K) (mg := mg) (base := base) (N := ["table", "term", "part"]) (qual := "_told") (sc := defScope s__told) (f := T.f__told) (cd := cdv) (A := A) (outer := outer) (s := s) (H := H) (E := E)
    have hx := passes_call (E := E) tk (fun _ _ _ _ h => h)
    have hu := hu_of2 hr
    exact ⟨_, fun G => (fss_cons (fs_if (ft_val (ke_isi K (T := "int") T.n_isinstance T.n_int (fe_var (pv 1))))
    (fss_one (fs_ret (fe_ix (kIx K) r2_ix (fe_glob (by rfl) T.g_PLACES T.r_PLACES T.y_PLACES) (fe_var (pv 1)))))
    fss_nil)
    (fss_one (fs_ret (ke_call (T.ok_put_in (P := P) (base := base)) hgd (hr.mono (by omega)) T.g_put_in T.F_put_in.kp T.b_put_in hx (fa_cons (fe_var (pv 0)) (fa_cons (FN.fe (fn_lc [("part", 2)] rfl sc__told.nd (blkOk_by (by kernel_rfl)) (it_seq K (fe_var (pv 1))) (fun _ _ _ _ _ => (gt_name (pg_name (i := 2) sc__told.nd rfl (by first | exact .inl rfl | exact .inr rfl)))) (fun _ _ _ _ _ => fts_nil) (fun _ _ _ _ _ => (ke_call (Tx.okR__told T n) hgd (hr.mono (by omega)) T.g__told T.F__told.kp T.b__told passL (fa_cons (fe_var (pv 0)) (fa_cons (fe_var (pv 2)) fa_nil)))))) fa_nil))))))⟩
theorem Tx.ok__told (T : Tx w K mg) : FnG P w K mg base 22 T.f__told T.d__told ["table", "term"] (spM K mg 2 (m__told 20)) := T.okR__told 20
theorem Tx.ok_term_table (T : Tx w K mg) : FnG P w K mg base 23 T.f_term_table T.d_term_table ["table", "term"] (spM K mg 2 m_term_table) := by
  refine ok_def T.F_term_table sc_term_table fun cdv A outer s H E hgd hr => ?_
  have tk := takes_def (P := P) (w := w) (K := K) (mg := mg) (base := base) (N := ["table", "term"]) (qual := "term_table") (sc := defScope s_term_table) (f := T.f_term_table) (cd := cdv) (A := A) (outer := outer) (s := s) (H := H) (E := E)
  have hx := passes_call (E := E) tk (fun _ _ _ _ h => h)
  have hu := hu_of2 hr
  exact ⟨_, fun G => (fss_cons (fs_if (ft_not (ft_val (ke_call (T.ok_is_table (P := P) (base := base)) hgd (hr.mono (by omega)) T.g_is_table T.F_is_table.kp T.b_is_table hx (fa_cons (fe_var (pv 0)) (fa_cons fe_int fa_nil)))))
    (fss_one (fs_raise1 T.x_InvalidTable (T.in_InvalidTable (P := P) (w := w) (base := base)) (hr.mono (by omega)) T.bi_InvalidTable rfl tk (fa_cons (fe_var (pv 0)) fa_nil)))
    fss_nil)
    (fss_cons (fs_if (ft_not (ft_val (ke_call (T.ok__is_term (P := P) (base := base)) hgd (hr.mono (by omega)) T.g__is_term T.F__is_term.kp T.b__is_term hx (fa_cons (fe_var (pv 1)) (fa_cons (fe_glob (by rfl) T.g_DEEPEST T.r_DEEPEST T.y_DEEPEST) fa_nil)))))
    (fss_one (fs_raise1 T.x_Undefined (T.in_Undefined (P := P) (w := w) (base := base)) (hr.mono (by omega)) T.bi_Undefined rfl tk (fa_cons fe_str fa_nil)))
    fss_nil)
    (fss_one (fs_ret (ke_call (T.ok__told (P := P) (base := base)) hgd (hr.mono (by omega)) T.g__told T.F__told.kp T.b__told hx (fa_cons (fe_var (pv 0)) (fa_cons (fe_var (pv 1)) fa_nil)))))))⟩
theorem Tx.ok_turned (T : Tx w K mg) : FnG P w K mg base 1 T.f_turned T.d_turned ["table"] (spM K mg 1 m_turned) := by
  refine ok_def T.F_turned sc_turned fun cdv A outer s H E hgd hr => ?_
  have tk := takes_def (P := P) (w := w) (K := K) (mg := mg) (base := base) (N := ["table", "worth"]) (qual := "turned") (sc := defScope s_turned) (f := T.f_turned) (cd := cdv) (A := A) (outer := outer) (s := s) (H := H) (E := E)
  have hx := passes_call (E := E) tk (fun _ _ _ _ h => h)
  have hu := hu_of2 hr
  exact ⟨_, fun G => (fss_one (fs_ret (fe_callTy (kTuple K) ra_tuple T.n_tuple (fa_cons (FN.fe (fn_lc [("worth", 1)] rfl sc_turned.nd (blkOk_by (by kernel_rfl)) (it_seq K (fe_var (pv 0))) (fun _ _ _ _ _ => (gt_name (pg_name (i := 1) sc_turned.nd rfl (by first | exact .inl rfl | exact .inr rfl)))) (fun _ _ _ _ _ => fts_nil) (fun _ _ _ _ _ => (fe_op op_sub r2_sub fe_int (fe_var (pv 1)))))) fa_nil))))⟩
theorem Tx.ok_is_plain (T : Tx w K mg) : FnG P w K mg base 2 T.f_is_plain T.d_is_plain ["table"] (spM K mg 1 m_is_plain) := by
  refine ok_def T.F_is_plain sc_is_plain fun cdv A outer s H E hgd hr => ?_
  have tk := takes_def (P := P) (w := w) (K := K) (mg := mg) (base := base) (N := ["table"]) (qual := "is_plain") (sc := defScope s_is_plain) (f := T.f_is_plain) (cd := cdv) (A := A) (outer := outer) (s := s) (H := H) (E := E)
  have hx := passes_call (E := E) tk (fun _ _ _ _ h => h)
  have hu := hu_of2 hr
  exact ⟨_, fun G => (fss_one (fs_ret (fe_or (fe_cmp (kInD K hu) r2_inA (fe_var (pv 0)) (fe_glob (by rfl) T.g_PLACES T.r_PLACES T.y_PLACES)) (fe_one (fe_cmp (kInD K hu) r2_inA (ke_call (T.ok_turned (P := P) (base := base)) hgd (hr.mono (by omega)) T.g_turned T.F_turned.kp T.b_turned hx (fa_cons (fe_var (pv 0)) fa_nil)) (fe_glob (by rfl) T.g_PLACES T.r_PLACES T.y_PLACES))))))⟩
theorem Tx.ok__applied (T : Tx w K mg) : FnG P w K mg base 1 T.f__applied T.d__applied ["turns", "parts"] (spM K mg 2 m__applied) := by
  refine ok_def T.F__applied sc__applied fun cdv A outer s H E hgd hr => ?_
  have tk := takes_def (P := P) (w := w) (K := K) (mg := mg) (base := base) (N := ["turns", "parts"]) (qual := "_applied") (sc := defScope s__applied) (f := T.f__applied) (cd := cdv) (A := A) (outer := outer) (s := s) (H := H) (E := E)
  have hx := passes_call (E := E) tk (fun _ _ _ _ h => h)
  have hu := hu_of2 hr
  exact ⟨_, fun G => (fss_cons (fs_if (ft_val (fe_var (pv 0)))
    (fss_one (fs_ret (fe_tup (fa_cons (fe_var (pv 1)) (fa_cons (fe_var (pv 1)) (fa_cons (fe_var (pv 1)) fa_nil))))))
    fss_nil)
    (fss_one (fs_ret (fe_var (pv 1)))))⟩
theorem Tx.ok__readings (T : Tx w K mg) : FnG P w K mg base 1 T.f__readings T.d__readings ["table"] (spM K mg 1 m__readings) := by
  refine ok_def T.F__readings sc__readings fun cdv A outer s H E hgd hr => ?_
  have tk := takes_def (P := P) (w := w) (K := K) (mg := mg) (base := base) (N := ["table"]) (qual := "_readings") (sc := defScope s__readings) (f := T.f__readings) (cd := cdv) (A := A) (outer := outer) (s := s) (H := H) (E := E)
  have hx := passes_call (E := E) tk (fun _ _ _ _ h => h)
  have hu := hu_of2 hr
  exact ⟨_, fun G => (fss_one (fs_ret (fe_tup (fa_cons (fe_tup (fa_cons (fe_tup (fa_cons (fe_ix (kIx K) r2_ix (fe_var (pv 0)) fe_int) (fa_cons (fe_ix (kIx K) r2_ix (fe_var (pv 0)) fe_int) fa_nil))) (fa_cons (fe_tup (fa_cons fe_int (fa_cons fe_int (fa_cons fe_int fa_nil)))) fa_nil))) (fa_cons (fe_tup (fa_cons (fe_tup (fa_cons (fe_ix (kIx K) r2_ix (fe_var (pv 0)) fe_int) (fa_cons (fe_ix (kIx K) r2_ix (fe_var (pv 0)) fe_int) fa_nil))) (fa_cons (fe_tup (fa_cons fe_int (fa_cons fe_int (fa_cons fe_int fa_nil)))) fa_nil))) (fa_cons (fe_tup (fa_cons (fe_tup (fa_cons (fe_ix (kIx K) r2_ix (fe_var (pv 0)) fe_int) (fa_cons (fe_ix (kIx K) r2_ix (fe_var (pv 0)) fe_int) fa_nil))) (fa_cons (fe_tup (fa_cons fe_int (fa_cons fe_int (fa_cons fe_int fa_nil)))) fa_nil))) fa_nil))))))⟩
theorem Tx.ok_term_of (T : Tx w K mg) : FnG P w K mg base 3 T.f_term_of T.d_term_of ["table"] (spM K mg 1 m_term_of) := by
  refine ok_def T.F_term_of sc_term_of fun cdv A outer s H E hgd hr => ?_
  have tk := takes_def (P := P) (w := w) (K := K) (mg := mg) (base := base) (N := ["table", "turns", "readings", "worths", "parts", "once", "whole", "_"]) (qual := "term_of") (sc := defScope s_term_of) (f := T.f_term_of) (cd := cdv) (A := A) (outer := outer) (s := s) (H := H) (E := E)
  have hx := passes_call (E := E) tk (fun _ _ _ _ h => h)
  have hu := hu_of2 hr
  exact ⟨_, fun G => (fss_cons (fs_if (ft_not (ft_val (ke_call (T.ok_is_table (P := P) (base := base)) hgd (hr.mono (by omega)) T.g_is_table T.F_is_table.kp T.b_is_table hx (fa_cons (fe_var (pv 0)) (fa_cons fe_int fa_nil)))))
    (fss_one (fs_raise1 T.x_InvalidTable (T.in_InvalidTable (P := P) (w := w) (base := base)) (hr.mono (by omega)) T.bi_InvalidTable rfl tk (fa_cons (fe_var (pv 0)) fa_nil)))
    fss_nil)
    (fss_cons (fs_if (ft_val (ke_call (T.ok_is_plain (P := P) (base := base)) hgd (hr.mono (by omega)) T.g_is_plain T.F_is_plain.kp T.b_is_plain hx (fa_cons (fe_var (pv 0)) fa_nil)))
    (fss_one (fs_raise1 T.x_Undefined (T.in_Undefined (P := P) (w := w) (base := base)) (hr.mono (by omega)) T.bi_Undefined rfl tk (fa_cons fe_str fa_nil)))
    fss_nil)
    (fss_cons (fs_if (ft_cmp (kEqD K hu) r2_eqD (fe_ix (kIx K) r2_ix (fe_var (pv 0)) fe_int) (fe_ix (kIx K) r2_ix (fe_var (pv 0)) fe_int))
    (fss_one (fs_ret (fe_tup (fa_cons (fe_ix (kIx K) r2_ix (fe_tup (fa_cons fe_str (fa_cons fe_str fa_nil))) (fe_ix (kIx K) r2_ix (fe_var (pv 0)) fe_int)) (fa_cons (fe_tup (fa_cons fe_int (fa_cons fe_int (fa_cons fe_int fa_nil)))) fa_nil)))))
    fss_nil)
    (fss_cons (fs_setV (i := 1) sc_term_of.nd rfl (by first | exact .inl rfl | exact .inr rfl) (fe_cmp (kEqD K hu) r2_eqD (fe_ix (kIx K) r2_ix (fe_var (pv 0)) fe_int) fe_int))
    (fss_cons (fs_if (ft_val (fe_var (pv 1)))
    (fss_one (fs_setV (i := 0) sc_term_of.nd rfl (by first | exact .inl rfl | exact .inr rfl) (ke_call (T.ok_put_in (P := P) (base := base)) hgd (hr.mono (by omega)) T.g_put_in T.F_put_in.kp T.b_put_in hx (fa_cons (fe_var (pv 0)) (fa_cons (fe_tup (fa_cons (fe_var (pv 0)) (fa_cons (fe_var (pv 0)) (fa_cons (fe_var (pv 0)) fa_nil)))) fa_nil)))))
    fss_nil)
    (fss_cons (fs_setV (i := 2) sc_term_of.nd rfl (by first | exact .inl rfl | exact .inr rfl) (ke_call (T.ok__readings (P := P) (base := base)) hgd (hr.mono (by omega)) T.g__readings T.F__readings.kp T.b__readings hx (fa_cons (fe_var (pv 0)) fa_nil)))
    (fss_cons (fs_forV own_def rfl (it_seq K (fe_var (pv 2))) (gk_un K (fgs_cons (fg_name (pg_name (i := 3) sc_term_of.nd rfl (by first | exact .inl rfl | exact .inr rfl))) (fgs_cons (fg_name (pg_name (i := 4) sc_term_of.nd rfl (by first | exact .inl rfl | exact .inr rfl))) fgs_nil (pgs_cons (pg_name (i := 4) sc_term_of.nd rfl (by first | exact .inl rfl | exact .inr rfl)) pgs_nil)) (pgs_cons (pg_name (i := 3) sc_term_of.nd rfl (by first | exact .inl rfl | exact .inr rfl)) (pgs_cons (pg_name (i := 4) sc_term_of.nd rfl (by first | exact .inl rfl | exact .inr rfl)) pgs_nil))) (pg_tup rfl (pgs_cons (pg_name (i := 3) sc_term_of.nd rfl (by first | exact .inl rfl | exact .inr rfl)) (pgs_cons (pg_name (i := 4) sc_term_of.nd rfl (by first | exact .inl rfl | exact .inr rfl)) pgs_nil))) (pg_lst rfl (pgs_cons (pg_name (i := 3) sc_term_of.nd rfl (by first | exact .inl rfl | exact .inr rfl)) (pgs_cons (pg_name (i := 4) sc_term_of.nd rfl (by first | exact .inl rfl | exact .inr rfl)) pgs_nil))))
    (fss_one (fs_if (ft_cmp (kEqD K hu) r2_eqD (fe_ix (kIx K) r2_ix (fe_var (pv 3)) fe_int) (fe_ix (kIx K) r2_ix (fe_var (pv 3)) fe_int))
    (fss_one (fs_ret (fe_tup (fa_cons (fe_ix (kIx K) r2_ix (fe_tup (fa_cons fe_str (fa_cons fe_str fa_nil))) (fe_ix (kIx K) r2_ix (fe_var (pv 3)) fe_int)) (fa_cons (ke_call (T.ok__applied (P := P) (base := base)) hgd (hr.mono (by omega)) T.g__applied T.F__applied.kp T.b__applied hx (fa_cons (fe_var (pv 1)) (fa_cons (fe_var (pv 4)) fa_nil))) fa_nil)))))
    fss_nil)))
    (fss_cons (FLcS.val (fs_lc 5 [("worths", 3), ("_", 7)] rfl sc_term_of.nd rfl (by rfl) (sw_true rfl (by rfl) rfl (by kernel_rfl)) (blkOk_by (by kernel_rfl)) (it_seq K (fe_var (pv 2))) (fun _ _ _ _ _ => (gk_tup K (gts_cons (gt_name (pg_name (i := 3) sc_term_of.nd rfl (by first | exact .inl rfl | exact .inr rfl))) (gts_cons (gt_name (pg_name (i := 7) sc_term_of.nd rfl (by first | exact .inl rfl | exact .inr rfl))) gts_nil (pgs_cons (pg_name (i := 7) sc_term_of.nd rfl (by first | exact .inl rfl | exact .inr rfl)) pgs_nil)) (pgs_cons (pg_name (i := 3) sc_term_of.nd rfl (by first | exact .inl rfl | exact .inr rfl)) (pgs_cons (pg_name (i := 7) sc_term_of.nd rfl (by first | exact .inl rfl | exact .inr rfl)) pgs_nil))) (pg_tup rfl (pgs_cons (pg_name (i := 3) sc_term_of.nd rfl (by first | exact .inl rfl | exact .inr rfl)) (pgs_cons (pg_name (i := 7) sc_term_of.nd rfl (by first | exact .inl rfl | exact .inr rfl)) pgs_nil))))) (fun _ _ _ _ _ => fts_nil) (fun _ _ _ _ _ => (fe_ix (kIx K) r2_ix (fe_var (pv 3)) fe_int))))
    (fss_cons (fs_setV (i := 6) sc_term_of.nd rfl (by first | exact .inl rfl | exact .inr rfl) (ke_call (T.ok__applied (P := P) (base := base)) hgd (hr.mono (by omega)) T.g__applied T.F__applied.kp T.b__applied hx (fa_cons (fe_var (pv 1)) (fa_cons (fe_tup (fa_cons fe_int (fa_cons fe_int (fa_cons fe_int fa_nil)))) fa_nil))))
    (fss_cons (fs_if (ft_cmp (kEqD K hu) r2_eqD (fe_callB (kSum K) ra_sumA T.n_sum (fa_cons (fe_var (pv 5)) fa_nil)) fe_int)
    (fss_one (fs_ret (fe_tup (fa_cons fe_str (fa_cons (fe_var (pv 6)) fa_nil)))))
    fss_nil)
    (fss_cons (fs_if (ft_cmp (kEqD K hu) r2_eqD (fe_callB (kSum K) ra_sumA T.n_sum (fa_cons (fe_var (pv 5)) fa_nil)) fe_int)
    (fss_one (fs_ret (fe_tup (fa_cons fe_str (fa_cons (fe_var (pv 6)) fa_nil)))))
    fss_nil)
    (fss_cons (fs_setO (i := 4) sc_term_of.nd rfl (by first | exact .inl rfl | exact .inr rfl) (fn_lst (fa_cons fe_int (fa_cons fe_int (fa_cons fe_int fa_nil)))))
    (fss_cons (fs_put (pv 4) (fe_op op_sub r2_sub fe_int (fe_index K (fe_var (pv 5)) (fa_cons fe_int fa_nil))) (fe_var (pv 6)))
    (fss_frz 4 (fss_one (fs_ret (fe_tup (fa_cons fe_str (fa_cons (ke_call (T.ok__applied (P := P) (base := base)) hgd (hr.mono (by omega)) T.g__applied T.F__applied.kp T.b__applied hx (fa_cons (fe_var (pv 1)) (fa_cons (fe_callTy (kTuple K) ra_tuple T.n_tuple (fa_cons (fe_var (pv 4)) fa_nil)) fa_nil))) fa_nil)))))))))))))))))))⟩
theorem Tx.ok_term_holds (T : Tx w K mg) : FnG P w K mg base 23 T.f_term_holds T.d_term_holds ["table", "claim"] (spM K mg 2 m_term_holds) := by
  refine ok_def T.F_term_holds sc_term_holds fun cdv A outer s H E hgd hr => ?_
  have tk := takes_def (P := P) (w := w) (K := K) (mg := mg) (base := base) (N := ["table", "claim", "word", "term"]) (qual := "term_holds") (sc := defScope s_term_holds) (f := T.f_term_holds) (cd := cdv) (A := A) (outer := outer) (s := s) (H := H) (E := E)
  have hx := passes_call (E := E) tk (fun _ _ _ _ h => h)
  have hu := hu_of2 hr
  exact ⟨_, fun G => (fss_cons (fs_if (FT.ofW (fw_or (ft_not (ft_val (ke_isi K (T := "tuple") T.n_isinstance T.n_tuple (fe_var (pv 1))))) (fw_or1 (ft_cmp (kNeD K hu) r2_neD (fe_callB (kLen K) ra_len T.n_len (fa_cons (fe_var (pv 1)) fa_nil)) fe_int))))
    (fss_one (fs_ret fe_bl))
    fss_nil)
    (fss_cons (fs_asgT (fe_var (pv 1)) (gk_un K (fgs_cons (fg_name (pg_name (i := 2) sc_term_holds.nd rfl (by first | exact .inl rfl | exact .inr rfl))) (fgs_cons (fg_name (pg_name (i := 3) sc_term_holds.nd rfl (by first | exact .inl rfl | exact .inr rfl))) fgs_nil (pgs_cons (pg_name (i := 3) sc_term_holds.nd rfl (by first | exact .inl rfl | exact .inr rfl)) pgs_nil)) (pgs_cons (pg_name (i := 2) sc_term_holds.nd rfl (by first | exact .inl rfl | exact .inr rfl)) (pgs_cons (pg_name (i := 3) sc_term_holds.nd rfl (by first | exact .inl rfl | exact .inr rfl)) pgs_nil))) (pg_tup rfl (pgs_cons (pg_name (i := 2) sc_term_holds.nd rfl (by first | exact .inl rfl | exact .inr rfl)) (pgs_cons (pg_name (i := 3) sc_term_holds.nd rfl (by first | exact .inl rfl | exact .inr rfl)) pgs_nil))) (pg_lst rfl (pgs_cons (pg_name (i := 2) sc_term_holds.nd rfl (by first | exact .inl rfl | exact .inr rfl)) (pgs_cons (pg_name (i := 3) sc_term_holds.nd rfl (by first | exact .inl rfl | exact .inr rfl)) pgs_nil)))))
    (fss_cons (fs_if (FT.ofW (fw_or (ft_not (ft_val (ke_isi K (T := "str") T.n_isinstance T.n_str (fe_var (pv 2))))) (fw_or (ft_knot K w T.d_TABLES (fe_var (pv 2))) (fw_or1 (ft_not (ft_val (ke_call (T.ok__is_term (P := P) (base := base)) hgd (hr.mono (by omega)) T.g__is_term T.F__is_term.kp T.b__is_term hx (fa_cons (fe_var (pv 3)) (fa_cons (fe_glob (by rfl) T.g_DEEPEST T.r_DEEPEST T.y_DEEPEST) fa_nil)))))))))
    (fss_one (fs_ret fe_bl))
    fss_nil)
    (fss_one (fs_ret (fe_cmp (kEqD K hu) r2_eqD (ke_call (T.ok__told (P := P) (base := base)) hgd (hr.mono (by omega)) T.g__told T.F__told.kp T.b__told hx (fa_cons (fe_var (pv 0)) (fa_cons (fe_var (pv 3)) fa_nil))) (ke_call (T.ok_widened (P := P) (base := base)) hgd (hr.mono (by omega)) T.g_widened T.F_widened.kp T.b_widened hx (fa_cons (ke_call (T.ok_table_of (P := P) (base := base)) hgd (hr.mono (by omega)) T.g_table_of T.F_table_of.kp T.b_table_of hx (fa_cons (fe_var (pv 2)) fa_nil)) fa_nil))))))))⟩
theorem Tx.ok__law_draws (T : Tx w K mg) : FnG P w K mg base 1 T.f__law_draws T.d__law_draws ["script", "many"] (spM K mg 2 m__law_draws) := by
  refine ok_def T.F__law_draws sc__law_draws fun cdv A outer s H E hgd hr => ?_
  have tk := takes_def (P := P) (w := w) (K := K) (mg := mg) (base := base) (N := ["script", "many", "rests", "draws", "k", "cell", "mixed", "at"]) (qual := "_law_draws") (sc := defScope s__law_draws) (f := T.f__law_draws) (cd := cdv) (A := A) (outer := outer) (s := s) (H := H) (E := E)
  have hx := passes_call (E := E) tk (fun _ _ _ _ h => h)
  have hu := hu_of2 hr
  exact ⟨_, fun G => (fss_cons (FLcS.own (fs_lc 2 [("cell", 5)] rfl sc__law_draws.nd rfl (by rfl) (sw_true rfl (by rfl) rfl (by kernel_rfl)) (blkOk_by (by kernel_rfl)) (it_seq K (fe_var (pv 0))) (fun _ _ _ _ _ => (gt_name (pg_name (i := 5) sc__law_draws.nd rfl (by first | exact .inl rfl | exact .inr rfl)))) (fun _ _ _ _ _ => fts_nil) (fun _ _ _ _ _ => (fe_callB call_abs ra_abs T.n_abs (fa_cons (fe_callTy call_int1 ra_int T.n_int (fa_cons (fe_var (pv 5)) fa_nil)) fa_nil)))))
    (fss_cons (fs_setO (i := 3) sc__law_draws.nd rfl (by first | exact .inl rfl | exact .inr rfl) (fn_lst fa_nil))
    (fss_cons (fs_forV own_def rfl (fit_range1 T.n_range (fa_cons (fe_var (pv 1)) fa_nil)) (fg_name (pg_name (i := 4) sc__law_draws.nd rfl (by first | exact .inl rfl | exact .inr rfl)))
    (fss_cons (fs_setV (i := 5) sc__law_draws.nd rfl (by first | exact .inl rfl | exact .inr rfl) (fe_var (pv 4)))
    (fss_cons (fs_if (ft_cmp op_gt r2_gt (fe_callB (kLen K) ra_len T.n_len (fa_cons (fe_var (pv 0)) fa_nil)) fe_int)
    (fss_cons (fs_setV (i := 7) sc__law_draws.nd rfl (by first | exact .inl rfl | exact .inr rfl) (fe_op op_mod r2_mod (fe_var (pv 4)) (fe_callB (kLen K) ra_len T.n_len (fa_cons (fe_var (pv 0)) fa_nil))))
    (fss_cons (fs_setV (i := 5) sc__law_draws.nd rfl (by first | exact .inl rfl | exact .inr rfl) (fe_callTy call_int1 ra_int T.n_int (fa_cons (fe_ix (kIx K) r2_ix (fe_var (pv 0)) (fe_var (pv 7))) fa_nil)))
    (fss_one (fs_if (FT.ofW (fw_and (ft_cmp op_ge r2_ge (fe_var (pv 5)) (fe_op op_pow r2_pow fe_int fe_int)) (fw_and1 (ft_cmp op_gt r2_gt (ke_ixOwn K (fe_var (pv 7)) (pv 2)) fe_int))))
    (fss_cons (fs_app (pv 3) (fe_op op_mod r2_mod (fe_callTy call_int1 ra_int T.n_int (fa_cons (ke_ixOwn K (fe_var (pv 7)) (pv 2)) fa_nil)) fe_int))
    (fss_cons (fs_put (pv 2) (fe_var (pv 7)) (fe_op op_fdiv r2_fdiv (fe_callTy call_int1 ra_int T.n_int (fa_cons (ke_ixOwn K (fe_var (pv 7)) (pv 2)) fa_nil)) fe_int))
    (fss_one fs_continue)))
    fss_nil))))
    fss_nil)
    (fss_cons (fs_setV (i := 6) sc__law_draws.nd rfl (by first | exact .inl rfl | exact .inr rfl) (fe_op op_mod r2_mod (fe_callTy call_int1 ra_int T.n_int (fa_cons (fe_op (kAdd K) r2_addA (fe_op (kAdd K) r2_addA (fe_op kMul r2_mulA (fe_var (pv 5)) fe_int) (fe_op kMul r2_mulA (fe_var (pv 4)) fe_int)) fe_int) fa_nil)) fe_int))
    (fss_cons (fs_setV (i := 6) sc__law_draws.nd rfl (by first | exact .inl rfl | exact .inr rfl) (fe_op op_mod r2_mod (fe_callTy call_int1 ra_int T.n_int (fa_cons (fe_op (kAdd K) r2_addA (fe_op op_fdiv r2_fdiv (fe_op kMul r2_mulA (fe_var (pv 6)) (fe_var (pv 6))) fe_int) (fe_var (pv 6))) fa_nil)) fe_int))
    (fss_one (fs_app (pv 3) (fe_op op_mod r2_mod (fe_callTy call_int1 ra_int T.n_int (fa_cons (fe_op (kAdd K) r2_addA (fe_op op_fdiv r2_fdiv (fe_op kMul r2_mulA (fe_var (pv 6)) (fe_var (pv 6))) fe_int) (fe_op kMul r2_mulA (fe_var (pv 4)) fe_int)) fa_nil)) fe_int))))))))
    (fss_frz 2 (fss_one (fs_retOwn (pv 3)))))))⟩
theorem Tx.ok__law_take (T : Tx w K mg) : FnG P w K mg base 1 T.f__law_take T.d__law_take ["hand", "many"] (spM K mg 2 m__law_take) := by
  refine ok_def T.F__law_take sc__law_take fun cdv A outer s H E hgd hr => ?_
  have tk := takes_def (P := P) (w := w) (K := K) (mg := mg) (base := base) (N := ["hand", "many", "at", "draws"]) (qual := "_law_take") (sc := defScope s__law_take) (f := T.f__law_take) (cd := cdv) (A := A) (outer := outer) (s := s) (H := H) (E := E)
  have hx := passes_call (E := E) tk (fun _ _ _ _ h => h)
  have hu := hu_of2 hr
  exact ⟨_, fun G => (fss_cons (fs_setV (i := 2) sc__law_take.nd rfl (by first | exact .inl rfl | exact .inr rfl) (fe_ix (kIx K) r2_ix (fe_var (pv 0)) fe_int))
    (fss_cons (fs_put (pv 0) fe_int (fe_op (kAdd K) r2_addA (fe_var (pv 2)) fe_int))
    (fss_cons (fs_setV (i := 3) sc__law_take.nd rfl (by first | exact .inl rfl | exact .inr rfl) (fe_ix (kIx K) r2_ix (fe_var (pv 0)) fe_int))
    (fss_cons (fs_if (ft_cmp op_ge r2_ge (fe_var (pv 2)) (fe_callB (kLen K) ra_len T.n_len (fa_cons (fe_var (pv 3)) fa_nil)))
    (fss_one (fs_ret fe_int))
    fss_nil)
    (fss_one (fs_ret (fe_op op_mod r2_mod (fe_op op_fdiv r2_fdiv (fe_callTy call_int1 ra_int T.n_int (fa_cons (fe_ix (kIx K) r2_ix (fe_var (pv 3)) (fe_var (pv 2))) fa_nil)) fe_int) (fe_var (pv 1)))))))))⟩
theorem Tx.ok__law_every (T : Tx w K mg) : FnG P w K mg base 1 T.f__law_every T.d__law_every ["many"] (spM K mg 1 m__law_every) := by
  refine ok_def T.F__law_every sc__law_every fun cdv A outer s H E hgd hr => ?_
  have tk := takes_def (P := P) (w := w) (K := K) (mg := mg) (base := base) (N := ["many", "found", "k", "longer", "row"]) (qual := "_law_every") (sc := defScope s__law_every) (f := T.f__law_every) (cd := cdv) (A := A) (outer := outer) (s := s) (H := H) (E := E)
  have hx := passes_call (E := E) tk (fun _ _ _ _ h => h)
  have hu := hu_of2 hr
  exact ⟨_, fun G => (fss_cons (fs_setV (i := 1) sc__law_every.nd rfl (by first | exact .inl rfl | exact .inr rfl) (FN.fe (fn_lst (fa_cons (fe_tup fa_nil) fa_nil))))
    (fss_cons (fs_forV own_def rfl (fit_range1 T.n_range (fa_cons (fe_var (pv 0)) fa_nil)) (fg_name (pg_name (i := 2) sc__law_every.nd rfl (by first | exact .inl rfl | exact .inr rfl)))
    (fss_cons (fs_setV (i := 3) sc__law_every.nd rfl (by first | exact .inl rfl | exact .inr rfl) (FN.fe (fn_lst fa_nil)))
    (fss_cons (fs_forV own_def rfl (it_seq K (fe_var (pv 1))) (fg_name (pg_name (i := 4) sc__law_every.nd rfl (by first | exact .inl rfl | exact .inr rfl)))
    (fss_one (fs_setV (i := 3) sc__law_every.nd rfl (by first | exact .inl rfl | exact .inr rfl) (fe_op (kAdd K) r2_addA (fe_var (pv 3)) (FN.fe (fn_lst (fa_cons (fe_op (kAdd K) r2_addA (fe_var (pv 4)) (fe_tup (fa_cons fe_int fa_nil))) (fa_cons (fe_op (kAdd K) r2_addA (fe_var (pv 4)) (fe_tup (fa_cons fe_int fa_nil))) fa_nil))))))))
    (fss_one (fs_setV (i := 1) sc__law_every.nd rfl (by first | exact .inl rfl | exact .inr rfl) (fe_var (pv 3)))))))
    (fss_one (fs_ret (fe_var (pv 1))))))⟩
theorem Tx.ok__law_place (T : Tx w K mg) : FnG P w K mg base 1 T.f__law_place T.d__law_place ["row"] (spM K mg 1 m__law_place) := by
  refine ok_def T.F__law_place sc__law_place fun cdv A outer s H E hgd hr => ?_
  have tk := takes_def (P := P) (w := w) (K := K) (mg := mg) (base := base) (N := ["row", "place", "value"]) (qual := "_law_place") (sc := defScope s__law_place) (f := T.f__law_place) (cd := cdv) (A := A) (outer := outer) (s := s) (H := H) (E := E)
  have hx := passes_call (E := E) tk (fun _ _ _ _ h => h)
  have hu := hu_of2 hr
  exact ⟨_, fun G => (fss_cons (fs_setV (i := 1) sc__law_place.nd rfl (by first | exact .inl rfl | exact .inr rfl) fe_int)
    (fss_cons (fs_forV own_def rfl (it_seq K (fe_var (pv 0))) (fg_name (pg_name (i := 2) sc__law_place.nd rfl (by first | exact .inl rfl | exact .inr rfl)))
    (fss_one (fs_setV (i := 1) sc__law_place.nd rfl (by first | exact .inl rfl | exact .inr rfl) (fe_op (kAdd K) r2_addA (fe_op kMul r2_mulA fe_int (fe_var (pv 1))) (fe_var (pv 2))))))
    (fss_one (fs_ret (fe_var (pv 1))))))⟩
theorem Tx.ok__law_six (T : Tx w K mg) : FnG P w K mg base 1 T.f__law_six T.d__law_six [] (spM K mg 0 m__law_six) := by
  refine ok_def T.F__law_six sc__law_six fun cdv A outer s H E hgd hr => ?_
  have tk := takes_def (P := P) (w := w) (K := K) (mg := mg) (base := base) (N := []) (qual := "_law_six") (sc := defScope s__law_six) (f := T.f__law_six) (cd := cdv) (A := A) (outer := outer) (s := s) (H := H) (E := E)
  have hx := passes_call (E := E) tk (fun _ _ _ _ h => h)
  have hu := hu_of2 hr
  exact ⟨_, fun G => (fss_one (fs_ret (FN.fe (fn_lst (fa_cons (fe_tup (fa_cons fe_str (fa_cons (fe_tup (fa_cons fe_int (fa_cons fe_int fa_nil))) fa_nil))) (fa_cons (fe_tup (fa_cons fe_str (fa_cons (fe_tup (fa_cons fe_int (fa_cons fe_int fa_nil))) fa_nil))) (fa_cons (fe_tup (fa_cons fe_str (fa_cons (fe_tup (fa_cons fe_int (fa_cons fe_int (fa_cons fe_int (fa_cons fe_int fa_nil))))) fa_nil))) (fa_cons (fe_tup (fa_cons fe_str (fa_cons (fe_tup (fa_cons fe_int (fa_cons fe_int (fa_cons fe_int (fa_cons fe_int fa_nil))))) fa_nil))) (fa_cons (fe_tup (fa_cons fe_str (fa_cons (fe_tup (fa_cons fe_int (fa_cons fe_int (fa_cons fe_int (fa_cons fe_int (fa_cons fe_int (fa_cons fe_int (fa_cons fe_int (fa_cons fe_int fa_nil))))))))) fa_nil))) (fa_cons (fe_tup (fa_cons fe_str (fa_cons (fe_tup (fa_cons fe_int (fa_cons fe_int (fa_cons fe_int (fa_cons fe_int (fa_cons fe_int (fa_cons fe_int (fa_cons fe_int (fa_cons fe_int fa_nil))))))))) fa_nil))) fa_nil))))))))))⟩
theorem Tx.ok__law_places_of (T : Tx w K mg) : FnG P w K mg base 1 T.f__law_places_of T.d__law_places_of ["table"] (spM K mg 1 m__law_places_of) := by
  refine ok_def T.F__law_places_of sc__law_places_of fun cdv A outer s H E hgd hr => ?_
  have tk := takes_def (P := P) (w := w) (K := K) (mg := mg) (base := base) (N := ["table"]) (qual := "_law_places_of") (sc := defScope s__law_places_of) (f := T.f__law_places_of) (cd := cdv) (A := A) (outer := outer) (s := s) (H := H) (E := E)
  have hx := passes_call (E := E) tk (fun _ _ _ _ h => h)
  have hu := hu_of2 hr
  exact ⟨_, fun G => (fss_one (fs_ret (fe_ix (kIx K) r2_ix (FN.fe (fn_lst (fa_cons fe_int (fa_cons fe_int (fa_cons fe_int (fa_cons fe_int fa_nil)))))) (fe_index K (FN.fe (fn_lst (fa_cons fe_int (fa_cons fe_int (fa_cons fe_int (fa_cons fe_int fa_nil)))))) (fa_cons (fe_callB (kLen K) ra_len T.n_len (fa_cons (fe_var (pv 0)) fa_nil)) fa_nil)))))⟩
theorem Tx.okR__law_term_table (T : Tx w K mg) : ∀ n, FnG P w K mg base (2 + n) T.f__law_term_table T.d__law_term_table ["table", "term"] (spM K mg 2 (m__law_term_table n))
  | 0 => fnG_bad rfl
  | n + 1 => by
    refine ok_def (k := 2 + n) T.F__law_term_table sc__law_term_table fun cdv A outer s H E hgd hr => ?_
    have tk := takes_def (P := P) (w := w) (K := K) (mg := mg) (base := base) (N := ["table", "term", "parts", "part", "k", "row"]) (qual := "_law_term_table") (sc := defScope s__law_term_table) (f := T.f__law_term_table) (cd := cdv) (A := A) (outer := outer) (s := s) (H := H) (E := E)
    have hx := passes_call (E := E) tk (fun _ _ _ _ h => h)
    have hu := hu_of2 hr
    exact ⟨_, fun G => (fss_cons (fs_if (ft_val (ke_isi K (T := "int") T.n_isinstance T.n_int (fe_var (pv 1))))
    (fss_one (fs_ret (fe_callTy (kTuple K) ra_tuple T.n_tuple (fa_cons (FN.fe (fn_lc [("row", 5)] rfl sc__law_term_table.nd (blkOk_by (by kernel_rfl)) (it_seq K (ke_call (T.ok__law_every (P := P) (base := base)) hgd (hr.mono (by omega)) T.g__law_every T.F__law_every.kp T.b__law_every hx (fa_cons fe_int fa_nil))) (fun _ _ _ _ _ => (gt_name (pg_name (i := 5) sc__law_term_table.nd rfl (by first | exact .inl rfl | exact .inr rfl)))) (fun _ _ _ _ _ => fts_nil) (fun _ _ _ _ _ => (fe_ix (kIx K) r2_ix (fe_var (pv 5)) (fe_var (pv 1)))))) fa_nil))))
    fss_nil)
    (fss_cons (fs_setV (i := 2) sc__law_term_table.nd rfl (by first | exact .inl rfl | exact .inr rfl) (FN.fe (fn_lc [("part", 3)] rfl sc__law_term_table.nd (blkOk_by (by kernel_rfl)) (it_seq K (fe_var (pv 1))) (fun _ _ _ _ _ => (gt_name (pg_name (i := 3) sc__law_term_table.nd rfl (by first | exact .inl rfl | exact .inr rfl)))) (fun _ _ _ _ _ => fts_nil) (fun _ _ _ _ _ => (ke_call (Tx.okR__law_term_table T n) hgd (hr.mono (by omega)) T.g__law_term_table T.F__law_term_table.kp T.b__law_term_table passL (fa_cons (fe_var (pv 0)) (fa_cons (fe_var (pv 3)) fa_nil)))))))
    (fss_one (fs_ret (fe_callTy (kTuple K) ra_tuple T.n_tuple (fa_cons (FN.fe (fn_lc [("k", 4)] rfl sc__law_term_table.nd (blkOk_by (by kernel_rfl)) (fit_range1 T.n_range (fa_cons fe_int fa_nil)) (fun _ _ _ _ _ => (gt_name (pg_name (i := 4) sc__law_term_table.nd rfl (by first | exact .inl rfl | exact .inr rfl)))) (fun _ _ _ _ _ => fts_nil) (fun _ _ _ _ _ => (fe_ix (kIx K) r2_ix (fe_var (pv 0)) (ke_call (T.ok__law_place (P := P) (base := base)) hgd (hr.mono (by omega)) T.g__law_place T.F__law_place.kp T.b__law_place passL (fa_cons (FN.fe (fn_lc [("part", 3)] rfl sc__law_term_table.nd (blkOk_by (by kernel_rfl)) (it_seq K (fe_var (pv 2))) (fun _ _ _ _ _ => (gt_name (pg_name (i := 3) sc__law_term_table.nd rfl (by first | exact .inl rfl | exact .inr rfl)))) (fun _ _ _ _ _ => fts_nil) (fun _ _ _ _ _ => (fe_ix (kIx K) r2_ix (fe_var (pv 3)) (fe_var (pv 4)))))) fa_nil)))))) fa_nil))))))⟩
theorem Tx.ok__law_term_table (T : Tx w K mg) : FnG P w K mg base 22 T.f__law_term_table T.d__law_term_table ["table", "term"] (spM K mg 2 (m__law_term_table 20)) := T.okR__law_term_table 20
theorem Tx.okR__law_is_term (T : Tx w K mg) : ∀ n, FnG P w K mg base (1 + n) T.f__law_is_term T.d__law_is_term ["value", "depth"] (spM K mg 2 (m__law_is_term n))
  | 0 => fnG_bad rfl
  | n + 1 => by
    refine ok_def (k := 1 + n) T.F__law_is_term sc__law_is_term fun cdv A outer s H E hgd hr => ?_
    have tk := takes_def (P := P) (w := w) (K := K) (mg := mg) (base := base) (N := ["value", "depth", "part"]) (qual := "_law_is_term") (sc := defScope s__law_is_term) (f := T.f__law_is_term) (cd := cdv) (A := A) (outer := outer) (s := s) (H := H) (E := E)
    have hx := passes_call (E := E) tk (fun _ _ _ _ h => h)
    have hu := hu_of2 hr
    exact ⟨_, fun G => (fss_cons (fs_if (FT.ofW (fw_and (ft_val (ke_isi K (T := "int") T.n_isinstance T.n_int (fe_var (pv 0)))) (fw_and1 (ft_not (ft_val (ke_isi K (T := "bool") T.n_isinstance T.n_bool (fe_var (pv 0))))))))
    (fss_one (fs_ret (fe_cmp (kInD K hu) r2_inA (fe_var (pv 0)) (FN.fe (fn_lst (fa_cons fe_int (fa_cons fe_int (fa_cons fe_int fa_nil))))))))
    fss_nil)
    (fss_cons (fs_if (FT.ofW (fw_or (ft_cmp (kEqD K hu) r2_eqD (fe_var (pv 1)) fe_int) (fw_or (ft_not (ft_val (ke_isi K (T := "tuple") T.n_isinstance T.n_tuple (fe_var (pv 0))))) (fw_or1 (ft_cmp (kNeD K hu) r2_neD (fe_callB (kLen K) ra_len T.n_len (fa_cons (fe_var (pv 0)) fa_nil)) fe_int)))))
    (fss_one (fs_ret fe_bl))
    fss_nil)
    (fss_one (fs_ret (fe_callB (kAll K) ra_all T.n_all (fa_cons (FN.fe (fn_lc [("part", 2)] rfl sc__law_is_term.nd (blkOk_by (by kernel_rfl)) (it_seq K (fe_var (pv 0))) (fun _ _ _ _ _ => (gt_name (pg_name (i := 2) sc__law_is_term.nd rfl (by first | exact .inl rfl | exact .inr rfl)))) (fun _ _ _ _ _ => fts_nil) (fun _ _ _ _ _ => (ke_call (Tx.okR__law_is_term T n) hgd (hr.mono (by omega)) T.g__law_is_term T.F__law_is_term.kp T.b__law_is_term passL (fa_cons (fe_var (pv 2)) (fa_cons (fe_op op_sub r2_sub (fe_var (pv 1)) fe_int) fa_nil)))))) fa_nil))))))⟩
theorem Tx.ok__law_is_term (T : Tx w K mg) : FnG P w K mg base 21 T.f__law_is_term T.d__law_is_term ["value", "depth"] (spM K mg 2 (m__law_is_term 20)) := T.okR__law_is_term 20
theorem Tx.ok__law_is_plain (T : Tx w K mg) : FnG P w K mg base 2 T.f__law_is_plain T.d__law_is_plain ["table"] (spM K mg 1 m__law_is_plain) := by
  refine ok_def T.F__law_is_plain sc__law_is_plain fun cdv A outer s H E hgd hr => ?_
  have tk := takes_def (P := P) (w := w) (K := K) (mg := mg) (base := base) (N := ["table", "place", "one", "row", "value"]) (qual := "_law_is_plain") (sc := defScope s__law_is_plain) (f := T.f__law_is_plain) (cd := cdv) (A := A) (outer := outer) (s := s) (H := H) (E := E)
  have hx := passes_call (E := E) tk (fun _ _ _ _ h => h)
  have hu := hu_of2 hr
  exact ⟨_, fun G => (fss_cons (fs_forV own_def rfl (fit_range1 T.n_range (fa_cons fe_int fa_nil)) (fg_name (pg_name (i := 1) sc__law_is_plain.nd rfl (by first | exact .inl rfl | exact .inr rfl)))
    (fss_cons (fs_setV (i := 2) sc__law_is_plain.nd rfl (by first | exact .inl rfl | exact .inr rfl) (fe_callTy (kTuple K) ra_tuple T.n_tuple (fa_cons (FN.fe (fn_lc [("row", 3)] rfl sc__law_is_plain.nd (blkOk_by (by kernel_rfl)) (it_seq K (ke_call (T.ok__law_every (P := P) (base := base)) hgd (hr.mono (by omega)) T.g__law_every T.F__law_every.kp T.b__law_every hx (fa_cons fe_int fa_nil))) (fun _ _ _ _ _ => (gt_name (pg_name (i := 3) sc__law_is_plain.nd rfl (by first | exact .inl rfl | exact .inr rfl)))) (fun _ _ _ _ _ => fts_nil) (fun _ _ _ _ _ => (fe_ix (kIx K) r2_ix (fe_var (pv 3)) (fe_var (pv 1)))))) fa_nil)))
    (fss_one (fs_if (ft_cmp (kInD K hu) r2_inA (fe_var (pv 0)) (FN.fe (fn_lst (fa_cons (fe_var (pv 2)) (fa_cons (fe_callTy (kTuple K) ra_tuple T.n_tuple (fa_cons (FN.fe (fn_lc [("value", 4)] rfl sc__law_is_plain.nd (blkOk_by (by kernel_rfl)) (it_seq K (fe_var (pv 2))) (fun _ _ _ _ _ => (gt_name (pg_name (i := 4) sc__law_is_plain.nd rfl (by first | exact .inl rfl | exact .inr rfl)))) (fun _ _ _ _ _ => fts_nil) (fun _ _ _ _ _ => (fe_op op_sub r2_sub fe_int (fe_var (pv 4)))))) fa_nil)) fa_nil)))))
    (fss_one (fs_ret fe_bl))
    fss_nil))))
    (fss_one (fs_ret fe_bl)))⟩
theorem Tx.ok__law_widened (T : Tx w K mg) : FnG P w K mg base 2 T.f__law_widened T.d__law_widened ["table", "m"] (spM K mg 2 m__law_widened) := by
  refine ok_def T.F__law_widened sc__law_widened fun cdv A outer s H E hgd hr => ?_
  have tk := takes_def (P := P) (w := w) (K := K) (mg := mg) (base := base) (N := ["table", "m", "row"]) (qual := "_law_widened") (sc := defScope s__law_widened) (f := T.f__law_widened) (cd := cdv) (A := A) (outer := outer) (s := s) (H := H) (E := E)
  have hx := passes_call (E := E) tk (fun _ _ _ _ h => h)
  have hu := hu_of2 hr
  exact ⟨_, fun G => (fss_one (fs_ret (fe_callTy (kTuple K) ra_tuple T.n_tuple (fa_cons (FN.fe (fn_lc [("row", 2)] rfl sc__law_widened.nd (blkOk_by (by kernel_rfl)) (it_seq K (ke_call (T.ok__law_every (P := P) (base := base)) hgd (hr.mono (by omega)) T.g__law_every T.F__law_every.kp T.b__law_every hx (fa_cons fe_int fa_nil))) (fun _ _ _ _ _ => (gt_name (pg_name (i := 2) sc__law_widened.nd rfl (by first | exact .inl rfl | exact .inr rfl)))) (fun _ _ _ _ _ => fts_nil) (fun _ _ _ _ _ => (fe_ix (kIx K) r2_ix (fe_var (pv 0)) (ke_call (T.ok__law_place (P := P) (base := base)) hgd (hr.mono (by omega)) T.g__law_place T.F__law_place.kp T.b__law_place passL (fa_cons (fe_slice (kSl K) rsl (fe_var (pv 2)) fo_none (fo_some (fe_var (pv 1)))) fa_nil)))))) fa_nil))))⟩
theorem Tx.ok__law_claim_holds (T : Tx w K mg) : FnG P w K mg base 23 T.f__law_claim_holds T.d__law_claim_holds ["table", "claim"] (spM K mg 2 m__law_claim_holds) := by
  refine ok_def T.F__law_claim_holds sc__law_claim_holds fun cdv A outer s H E hgd hr => ?_
  have tk := takes_def (P := P) (w := w) (K := K) (mg := mg) (base := base) (N := ["table", "claim", "found", "word", "one"]) (qual := "_law_claim_holds") (sc := defScope s__law_claim_holds) (f := T.f__law_claim_holds) (cd := cdv) (A := A) (outer := outer) (s := s) (H := H) (E := E)
  have hx := passes_call (E := E) tk (fun _ _ _ _ h => h)
  have hu := hu_of2 hr
  exact ⟨_, fun G => (fss_cons (fs_if (FT.ofW (fw_or (ft_not (ft_val (ke_isi K (T := "tuple") T.n_isinstance T.n_tuple (fe_var (pv 1))))) (fw_or (ft_cmp (kNeD K hu) r2_neD (fe_callB (kLen K) ra_len T.n_len (fa_cons (fe_var (pv 1)) fa_nil)) fe_int) (fw_or1 (ft_not (ft_val (ke_isi K (T := "str") T.n_isinstance T.n_str (fe_ix (kIx K) r2_ix (fe_var (pv 1)) fe_int))))))))
    (fss_one (fs_ret fe_bl))
    fss_nil)
    (fss_cons (FLcS.val (fs_lc 2 [("word", 3), ("one", 4)] rfl sc__law_claim_holds.nd rfl (by rfl) (sw_true rfl (by rfl) rfl (by kernel_rfl)) (blkOk_by (by kernel_rfl)) (it_seq K (ke_call0 (T.ok__law_six (P := P) (base := base)) hgd (hr.mono (by omega)) T.g__law_six T.F__law_six.kp T.b__law_six hx)) (fun _ _ _ _ _ => (gk_tup K (gts_cons (gt_name (pg_name (i := 3) sc__law_claim_holds.nd rfl (by first | exact .inl rfl | exact .inr rfl))) (gts_cons (gt_name (pg_name (i := 4) sc__law_claim_holds.nd rfl (by first | exact .inl rfl | exact .inr rfl))) gts_nil (pgs_cons (pg_name (i := 4) sc__law_claim_holds.nd rfl (by first | exact .inl rfl | exact .inr rfl)) pgs_nil)) (pgs_cons (pg_name (i := 3) sc__law_claim_holds.nd rfl (by first | exact .inl rfl | exact .inr rfl)) (pgs_cons (pg_name (i := 4) sc__law_claim_holds.nd rfl (by first | exact .inl rfl | exact .inr rfl)) pgs_nil))) (pg_tup rfl (pgs_cons (pg_name (i := 3) sc__law_claim_holds.nd rfl (by first | exact .inl rfl | exact .inr rfl)) (pgs_cons (pg_name (i := 4) sc__law_claim_holds.nd rfl (by first | exact .inl rfl | exact .inr rfl)) pgs_nil))))) (fun _ _ _ _ _ => (fts_one (ft_cmp (kEqD K hu) r2_eqD (fe_var (pv 3)) (fe_ix (kIx K) r2_ix (fe_var (pv 1)) fe_int)))) (fun _ _ _ _ _ => (fe_var (pv 4)))))
    (fss_cons (fs_if (FT.ofW (fw_or (ft_cmp (kEqD K hu) r2_eqD (fe_callB (kLen K) ra_len T.n_len (fa_cons (fe_var (pv 2)) fa_nil)) fe_int) (fw_or1 (ft_not (ft_val (ke_call (T.ok__law_is_term (P := P) (base := base)) hgd (hr.mono (by omega)) T.g__law_is_term T.F__law_is_term.kp T.b__law_is_term hx (fa_cons (fe_ix (kIx K) r2_ix (fe_var (pv 1)) fe_int) (fa_cons fe_int fa_nil))))))))
    (fss_one (fs_ret fe_bl))
    fss_nil)
    (fss_one (fs_ret (fe_cmp (kEqD K hu) r2_eqD (ke_call (T.ok__law_term_table (P := P) (base := base)) hgd (hr.mono (by omega)) T.g__law_term_table T.F__law_term_table.kp T.b__law_term_table hx (fa_cons (fe_var (pv 0)) (fa_cons (fe_ix (kIx K) r2_ix (fe_var (pv 1)) fe_int) fa_nil))) (ke_call (T.ok__law_widened (P := P) (base := base)) hgd (hr.mono (by omega)) T.g__law_widened T.F__law_widened.kp T.b__law_widened hx (fa_cons (fe_ix (kIx K) r2_ix (fe_var (pv 2)) fe_int) (fa_cons (ke_call (T.ok__law_places_of (P := P) (base := base)) hgd (hr.mono (by omega)) T.g__law_places_of T.F__law_places_of.kp T.b__law_places_of hx (fa_cons (fe_ix (kIx K) r2_ix (fe_var (pv 2)) fe_int) fa_nil)) fa_nil)))))))))⟩
theorem Tx.okR__law_drawn_term (T : Tx w K mg) : ∀ n, FnG P w K mg base (2 + n) T.f__law_drawn_term T.d__law_drawn_term ["hand", "depth"] (spM K mg 2 (m__law_drawn_term n))
  | 0 => fnG_bad rfl
  | n + 1 => by
    refine ok_def (k := 2 + n) T.F__law_drawn_term sc__law_drawn_term fun cdv A outer s H E hgd hr => ?_
    have tk := takes_def (P := P) (w := w) (K := K) (mg := mg) (base := base) (N := ["hand", "depth", "k"]) (qual := "_law_drawn_term") (sc := defScope s__law_drawn_term) (f := T.f__law_drawn_term) (cd := cdv) (A := A) (outer := outer) (s := s) (H := H) (E := E)
    have hx := passes_call (E := E) tk (fun _ _ _ _ h => h)
    have hu := hu_of2 hr
    exact ⟨_, fun G => (fss_cons (fs_if (FT.ofW (fw_or (ft_cmp (kEqD K hu) r2_eqD (fe_var (pv 1)) fe_int) (fw_or1 (ft_cmp (kEqD K hu) r2_eqD (ke_call (T.ok__law_take (P := P) (base := base)) hgd (hr.mono (by omega)) T.g__law_take T.F__law_take.kp T.b__law_take hx (fa_cons (fe_var (pv 0)) (fa_cons fe_int fa_nil))) fe_int))))
    (fss_one (fs_ret (ke_call (T.ok__law_take (P := P) (base := base)) hgd (hr.mono (by omega)) T.g__law_take T.F__law_take.kp T.b__law_take hx (fa_cons (fe_var (pv 0)) (fa_cons fe_int fa_nil)))))
    fss_nil)
    (fss_one (fs_ret (fe_callTy (kTuple K) ra_tuple T.n_tuple (fa_cons (FN.fe (fn_lc [("k", 2)] rfl sc__law_drawn_term.nd (blkOk_by (by kernel_rfl)) (fit_range1 T.n_range (fa_cons fe_int fa_nil)) (fun _ _ _ _ _ => (gt_name (pg_name (i := 2) sc__law_drawn_term.nd rfl (by first | exact .inl rfl | exact .inr rfl)))) (fun _ _ _ _ _ => fts_nil) (fun _ _ _ _ _ => (ke_call (Tx.okR__law_drawn_term T n) hgd (hr.mono (by omega)) T.g__law_drawn_term T.F__law_drawn_term.kp T.b__law_drawn_term passL (fa_cons (fe_var (pv 0)) (fa_cons (fe_op op_sub r2_sub (fe_var (pv 1)) fe_int) fa_nil)))))) fa_nil)))))⟩
theorem Tx.ok__law_drawn_term (T : Tx w K mg) : FnG P w K mg base 8 T.f__law_drawn_term T.d__law_drawn_term ["hand", "depth"] (spM K mg 2 (m__law_drawn_term 6)) := T.okR__law_drawn_term 6
theorem Tx.ok__law_odd (T : Tx w K mg) : FnG P w K mg base 2 T.f__law_odd T.d__law_odd ["hand"] (spM K mg 1 m__law_odd) := by
  refine ok_def T.F__law_odd sc__law_odd fun cdv A outer s H E hgd hr => ?_
  have tk := takes_def (P := P) (w := w) (K := K) (mg := mg) (base := base) (N := ["hand"]) (qual := "_law_odd") (sc := defScope s__law_odd) (f := T.f__law_odd) (cd := cdv) (A := A) (outer := outer) (s := s) (H := H) (E := E)
  have hx := passes_call (E := E) tk (fun _ _ _ _ h => h)
  have hu := hu_of2 hr
  exact ⟨_, fun G => (fss_one (fs_ret (fe_ix (kIx K) r2_ix (FN.fe (fn_lst (fa_cons fe_non (fa_cons fe_bl (fa_cons (fe_un un_neg r1_neg fe_int) (fa_cons fe_str (fa_cons (fe_tup fa_nil) (fa_cons (FN.fe (fn_lst fa_nil)) (fa_cons fe_int (fa_cons fe_str (fa_cons (fe_tup (fa_cons fe_int fa_nil)) (fa_cons fe_bl (fa_cons (fe_op op_pow r2_pow fe_int fe_int) fa_nil))))))))))))) (ke_call (T.ok__law_take (P := P) (base := base)) hgd (hr.mono (by omega)) T.g__law_take T.F__law_take.kp T.b__law_take hx (fa_cons (fe_var (pv 0)) (fa_cons fe_int fa_nil))))))⟩
theorem Tx.ok__law_told (T : Tx w K mg) : FnG P w K mg base 24 T.f__law_told T.d__law_told ["table", "term"] (spM K mg 2 m__law_told) := by
  refine ok_def T.F__law_told sc__law_told fun cdv A outer s H E hgd hr => ?_
  have tk := takes_def (P := P) (w := w) (K := K) (mg := mg) (base := base) (N := ["table", "term", "e"]) (qual := "_law_told") (sc := defScope s__law_told) (f := T.f__law_told) (cd := cdv) (A := A) (outer := outer) (s := s) (H := H) (E := E)
  have hx := passes_call (E := E) tk (fun _ _ _ _ h => h)
  have hu := hu_of2 hr
  exact ⟨_, fun G => (fss_one (fs_tryL (i := 2) (n := 3) rfl rfl sc__law_told.nd rfl rfl rfl (fun W pn xe tk => have hx := passes_call (E := ExAll W 3) tk (fun _ _ _ _ h => h)
    (fss_one (fs_ret (fe_tup (fa_cons fe_str (fa_cons (ke_call (T.ok_term_table (P := P) (base := base)) hgd (hr.mono (by omega)) T.g_term_table T.F_term_table.kp T.b_term_table hx (fa_cons (fe_var (pv 0)) (fa_cons (fe_var (pv 1)) fa_nil))) fa_nil))))))
    (.cons ⟨by rfl, by decide, .inl T.x_InvalidTable.gC⟩ (tb_cons ⟨_, T.x_InvalidTable.gC, T.em_InvalidTable_InvalidTable⟩ (tb_cons ⟨_, T.x_Undefined.gC, T.em_Undefined_InvalidTable⟩ tb_nil)) (fun G1 a oe cls d pn hz hf hp => (fss_one (fs_ret (fe_tup (fa_cons fe_str (fa_cons (fe_callB (kReprU K hu hgd) ra_repr T.n_repr (fa_cons (fe_fld hz hf hp (pv 2) (tb_cons ⟨_, _, _, T.x_InvalidTable, by simp⟩ tb_nil)) fa_nil)) (fa_cons (fe_xis hz hf hp (pv 2) T.n_isinstance (clsN_own T.g_CellError) (tb_cons ⟨_, T.x_InvalidTable.gC, T.x_InvalidTable.is, T.kt_0⟩ (tb_cons ⟨_, T.x_Undefined.gC, T.x_Undefined.is, T.kt_1⟩ tb_nil))) fa_nil))))))) (.cons ⟨by rfl, by decide, .inl T.x_Undefined.gC⟩ (tb_cons ⟨_, T.x_InvalidTable.gC, T.em_InvalidTable_Undefined⟩ (tb_cons ⟨_, T.x_Undefined.gC, T.em_Undefined_Undefined⟩ tb_nil)) (fun G1 a oe cls d pn hz hf hp => (fss_one (fs_ret (fe_tup (fa_cons fe_str (fa_cons (fe_fld hz hf hp (pv 2) (tb_cons ⟨_, _, _, T.x_Undefined, by simp⟩ tb_nil)) (fa_cons (fe_xis hz hf hp (pv 2) T.n_isinstance (clsN_own T.g_CellError) (tb_cons ⟨_, T.x_InvalidTable.gC, T.x_InvalidTable.is, T.kt_0⟩ (tb_cons ⟨_, T.x_Undefined.gC, T.x_Undefined.is, T.kt_1⟩ tb_nil))) fa_nil))))))) .nil))))⟩
theorem Tx.ok__law_deep (T : Tx w K mg) : FnG P w K mg base 2 T.f__law_deep T.d__law_deep ["hand", "many"] (spM K mg 2 m__law_deep) := by
  refine ok_def T.F__law_deep sc__law_deep fun cdv A outer s H E hgd hr => ?_
  have tk := takes_def (P := P) (w := w) (K := K) (mg := mg) (base := base) (N := ["hand", "many", "term", "k"]) (qual := "_law_deep") (sc := defScope s__law_deep) (f := T.f__law_deep) (cd := cdv) (A := A) (outer := outer) (s := s) (H := H) (E := E)
  have hx := passes_call (E := E) tk (fun _ _ _ _ h => h)
  have hu := hu_of2 hr
  exact ⟨_, fun G => (fss_cons (fs_setV (i := 2) sc__law_deep.nd rfl (by first | exact .inl rfl | exact .inr rfl) (ke_call (T.ok__law_take (P := P) (base := base)) hgd (hr.mono (by omega)) T.g__law_take T.F__law_take.kp T.b__law_take hx (fa_cons (fe_var (pv 0)) (fa_cons fe_int fa_nil))))
    (fss_cons (fs_forV own_def rfl (fit_range1 T.n_range (fa_cons (fe_var (pv 1)) fa_nil)) (fg_name (pg_name (i := 3) sc__law_deep.nd rfl (by first | exact .inl rfl | exact .inr rfl)))
    (fss_one (fs_setV (i := 2) sc__law_deep.nd rfl (by first | exact .inl rfl | exact .inr rfl) (fe_ix (kIx K) r2_ix (FN.fe (fn_lst (fa_cons (fe_tup (fa_cons (fe_var (pv 2)) (fa_cons fe_int (fa_cons fe_int fa_nil)))) (fa_cons (fe_tup (fa_cons fe_int (fa_cons (fe_var (pv 2)) (fa_cons fe_int fa_nil)))) (fa_cons (fe_tup (fa_cons fe_int (fa_cons fe_int (fa_cons (fe_var (pv 2)) fa_nil)))) fa_nil))))) (ke_call (T.ok__law_take (P := P) (base := base)) hgd (hr.mono (by omega)) T.g__law_take T.F__law_take.kp T.b__law_take hx (fa_cons (fe_var (pv 0)) (fa_cons fe_int fa_nil)))))))
    (fss_one (fs_ret (fe_var (pv 2))))))⟩
theorem Tx.ok__law_chain (T : Tx w K mg) : FnG P w K mg base 2 T.f__law_chain T.d__law_chain ["hand", "word"] (spM K mg 2 m__law_chain) := by
  refine ok_def T.F__law_chain sc__law_chain fun cdv A outer s H E hgd hr => ?_
  have tk := takes_def (P := P) (w := w) (K := K) (mg := mg) (base := base) (N := ["hand", "word", "term", "k"]) (qual := "_law_chain") (sc := defScope s__law_chain) (f := T.f__law_chain) (cd := cdv) (A := A) (outer := outer) (s := s) (H := H) (E := E)
  have hx := passes_call (E := E) tk (fun _ _ _ _ h => h)
  have hu := hu_of2 hr
  exact ⟨_, fun G => (fss_cons (fs_setV (i := 2) sc__law_chain.nd rfl (by first | exact .inl rfl | exact .inr rfl) (fe_tup (fa_cons fe_int (fa_cons fe_int (fa_cons fe_int fa_nil)))))
    (fss_cons (fs_forV own_def rfl (fit_range1 T.n_range (fa_cons (fe_op (kAdd K) r2_addA fe_int (ke_call (T.ok__law_take (P := P) (base := base)) hgd (hr.mono (by omega)) T.g__law_take T.F__law_take.kp T.b__law_take hx (fa_cons (fe_var (pv 0)) (fa_cons fe_int fa_nil)))) fa_nil)) (fg_name (pg_name (i := 3) sc__law_chain.nd rfl (by first | exact .inl rfl | exact .inr rfl)))
    (fss_one (fs_setV (i := 2) sc__law_chain.nd rfl (by first | exact .inl rfl | exact .inr rfl) (fe_tup (fa_cons (fe_var (pv 2)) (fa_cons fe_int (fa_cons (fe_callTy call_int1 ra_int T.n_int (fa_cons (fe_cmp (kNeD K hu) r2_neD (fe_var (pv 1)) fe_str) fa_nil)) fa_nil)))))))
    (fss_one (fs_ret (fe_var (pv 2))))))⟩
theorem Tx.okR__law_size (T : Tx w K mg) : ∀ n, FnG P w K mg base (1 + n) T.f__law_size T.d__law_size ["term"] (spM K mg 1 (m__law_size n))
  | 0 => fnG_bad rfl
  | n + 1 => by
    refine ok_def (k := 1 + n) T.F__law_size sc__law_size fun cdv A outer s H E hgd hr => ?_
    have tk := takes_def (P := P) (w := w) (K := K) (mg := mg) (base := base) (N := ["term", "part"]) (qual := "_law_size") (sc := defScope s__law_size) (f := T.f__law_size) (cd := cdv) (A := A) (outer := outer) (s := s) (H := H) (E := E)
    have hx := passes_call (E := E) tk (fun _ _ _ _ h => h)
    have hu := hu_of2 hr
    exact ⟨_, fun G => (fss_cons (fs_if (ft_val (ke_isi K (T := "int") T.n_isinstance T.n_int (fe_var (pv 0))))
    (fss_one (fs_ret fe_int))
    fss_nil)
    (fss_one (fs_ret (fe_callB (kSum K) ra_sumA T.n_sum (fa_cons (FN.fe (fn_lc [("part", 1)] rfl sc__law_size.nd (blkOk_by (by kernel_rfl)) (it_seq K (fe_var (pv 0))) (fun _ _ _ _ _ => (gt_name (pg_name (i := 1) sc__law_size.nd rfl (by first | exact .inl rfl | exact .inr rfl)))) (fun _ _ _ _ _ => fts_nil) (fun _ _ _ _ _ => (ke_call (Tx.okR__law_size T n) hgd (hr.mono (by omega)) T.g__law_size T.F__law_size.kp T.b__law_size passL (fa_cons (fe_var (pv 1)) fa_nil))))) fa_nil)))))⟩
theorem Tx.ok__law_size (T : Tx w K mg) : FnG P w K mg base 21 T.f__law_size T.d__law_size ["term"] (spM K mg 1 (m__law_size 20)) := T.okR__law_size 20
theorem Tx.ok__law_bent (T : Tx w K mg) : FnG P w K mg base 2 T.f__law_bent T.d__law_bent ["hand", "term"] (spM K mg 2 m__law_bent) := by
  refine ok_def T.F__law_bent sc__law_bent fun cdv A outer s H E hgd hr => ?_
  have tk := takes_def (P := P) (w := w) (K := K) (mg := mg) (base := base) (N := ["hand", "term", "parents", "step", "odd", "part", "old", "at"]) (qual := "_law_bent") (sc := defScope s__law_bent) (f := T.f__law_bent) (cd := cdv) (A := A) (outer := outer) (s := s) (H := H) (E := E)
  have hx := passes_call (E := E) tk (fun _ _ _ _ h => h)
  have hu := hu_of2 hr
  exact ⟨_, fun G => (fss_cons (fs_setO (i := 2) sc__law_bent.nd rfl (by first | exact .inl rfl | exact .inr rfl) (fn_lst fa_nil))
    (fss_cons (fs_forV own_def rfl (fit_range1 T.n_range (fa_cons (ke_call (T.ok__law_take (P := P) (base := base)) hgd (hr.mono (by omega)) T.g__law_take T.F__law_take.kp T.b__law_take hx (fa_cons (fe_var (pv 0)) (fa_cons fe_int fa_nil))) fa_nil)) (fg_name (pg_name (i := 3) sc__law_bent.nd rfl (by first | exact .inl rfl | exact .inr rfl)))
    (fss_one (fs_if (ft_val (ke_isi K (T := "tuple") T.n_isinstance T.n_tuple (fe_var (pv 1))))
    (fss_cons (fs_setV (i := 7) sc__law_bent.nd rfl (by first | exact .inl rfl | exact .inr rfl) (ke_call (T.ok__law_take (P := P) (base := base)) hgd (hr.mono (by omega)) T.g__law_take T.F__law_take.kp T.b__law_take hx (fa_cons (fe_var (pv 0)) (fa_cons fe_int fa_nil))))
    (fss_cons (fs_app (pv 2) (fe_tup (fa_cons (fe_var (pv 1)) (fa_cons (fe_var (pv 7)) fa_nil))))
    (fss_one (fs_setV (i := 1) sc__law_bent.nd rfl (by first | exact .inl rfl | exact .inr rfl) (fe_ix (kIx K) r2_ix (fe_var (pv 1)) (fe_var (pv 7)))))))
    fss_nil)))
    (fss_frz 2 (fss_cons (fs_setV (i := 4) sc__law_bent.nd rfl (by first | exact .inl rfl | exact .inr rfl) (FN.fe (fn_lst (fa_cons fe_int (fa_cons (fe_un un_neg r1_neg fe_int) (fa_cons fe_bl (fa_cons fe_non (fa_cons fe_str (fa_cons (fe_tup fa_nil) (fa_cons (fe_tup (fa_cons fe_int (fa_cons fe_int fa_nil))) (fa_cons (fe_tup (fa_cons fe_int (fa_cons fe_int (fa_cons fe_int (fa_cons fe_int fa_nil))))) (fa_cons (FN.fe (fn_lst (fa_cons fe_int (fa_cons fe_int (fa_cons fe_int fa_nil))))) (fa_cons fe_int (fa_cons fe_int (fa_cons fe_int (fa_cons (fe_tup (fa_cons fe_int (fa_cons fe_int (fa_cons fe_int fa_nil)))) (fa_cons (fe_tup (fa_cons fe_int (fa_cons fe_int (fa_cons fe_int fa_nil)))) fa_nil)))))))))))))))))
    (fss_cons (fs_setV (i := 5) sc__law_bent.nd rfl (by first | exact .inl rfl | exact .inr rfl) (fe_ix (kIx K) r2_ix (fe_var (pv 4)) (ke_call (T.ok__law_take (P := P) (base := base)) hgd (hr.mono (by omega)) T.g__law_take T.F__law_take.kp T.b__law_take hx (fa_cons (fe_var (pv 0)) (fa_cons fe_int fa_nil)))))
    (fss_cons (fs_forV own_def rfl (fit_range1 T.n_range (fa_cons (fe_callB (kLen K) ra_len T.n_len (fa_cons (fe_var (pv 2)) fa_nil)) fa_nil)) (fg_name (pg_name (i := 3) sc__law_bent.nd rfl (by first | exact .inl rfl | exact .inr rfl)))
    (fss_cons (fs_asgT (fe_ix (kIx K) r2_ix (fe_var (pv 2)) (fe_op op_sub r2_sub (fe_op op_sub r2_sub (fe_callB (kLen K) ra_len T.n_len (fa_cons (fe_var (pv 2)) fa_nil)) fe_int) (fe_var (pv 3)))) (gk_un K (fgs_cons (fg_name (pg_name (i := 6) sc__law_bent.nd rfl (by first | exact .inl rfl | exact .inr rfl))) (fgs_cons (fg_name (pg_name (i := 7) sc__law_bent.nd rfl (by first | exact .inl rfl | exact .inr rfl))) fgs_nil (pgs_cons (pg_name (i := 7) sc__law_bent.nd rfl (by first | exact .inl rfl | exact .inr rfl)) pgs_nil)) (pgs_cons (pg_name (i := 6) sc__law_bent.nd rfl (by first | exact .inl rfl | exact .inr rfl)) (pgs_cons (pg_name (i := 7) sc__law_bent.nd rfl (by first | exact .inl rfl | exact .inr rfl)) pgs_nil))) (pg_tup rfl (pgs_cons (pg_name (i := 6) sc__law_bent.nd rfl (by first | exact .inl rfl | exact .inr rfl)) (pgs_cons (pg_name (i := 7) sc__law_bent.nd rfl (by first | exact .inl rfl | exact .inr rfl)) pgs_nil))) (pg_lst rfl (pgs_cons (pg_name (i := 6) sc__law_bent.nd rfl (by first | exact .inl rfl | exact .inr rfl)) (pgs_cons (pg_name (i := 7) sc__law_bent.nd rfl (by first | exact .inl rfl | exact .inr rfl)) pgs_nil)))))
    (fss_one (fs_setV (i := 5) sc__law_bent.nd rfl (by first | exact .inl rfl | exact .inr rfl) (fe_op (kAdd K) r2_addA (fe_op (kAdd K) r2_addA (fe_slice (kSl K) rsl (fe_var (pv 6)) fo_none (fo_some (fe_var (pv 7)))) (fe_tup (fa_cons (fe_var (pv 5)) fa_nil))) (fe_slice (kSl K) rsl (fe_var (pv 6)) (fo_some (fe_op (kAdd K) r2_addA (fe_var (pv 7)) fe_int)) fo_none))))))
    (fss_one (fs_ret (fe_var (pv 5))))))))))⟩
theorem Tx.ok__law_terms_told (T : Tx w K mg) : FnG P w K mg base 25 T.f__law_terms_told T.d__law_terms_told ["hand", "table"] (spM K mg 2 m__law_terms_told) := by
  refine ok_def T.F__law_terms_told sc__law_terms_told fun cdv A outer s H E hgd hr => ?_
  have tk := takes_def (P := P) (w := w) (K := K) (mg := mg) (base := base) (N := ["hand", "table", "k", "term", "told"]) (qual := "_law_terms_told") (sc := defScope s__law_terms_told) (f := T.f__law_terms_told) (cd := cdv) (A := A) (outer := outer) (s := s) (H := H) (E := E)
  have hx := passes_call (E := E) tk (fun _ _ _ _ h => h)
  have hu := hu_of2 hr
  exact ⟨_, fun G => (fss_cons (fs_forV own_def rfl (fit_range1 T.n_range (fa_cons fe_int fa_nil)) (fg_name (pg_name (i := 2) sc__law_terms_told.nd rfl (by first | exact .inl rfl | exact .inr rfl)))
    (fss_cons (fs_setV (i := 3) sc__law_terms_told.nd rfl (by first | exact .inl rfl | exact .inr rfl) (fe_ix (kIx K) r2_ix (FN.fe (fn_lst (fa_cons (ke_call (T.ok__law_drawn_term (P := P) (base := base)) hgd (hr.mono (by omega)) T.g__law_drawn_term T.F__law_drawn_term.kp T.b__law_drawn_term hx (fa_cons (fe_var (pv 0)) (fa_cons fe_int fa_nil))) (fa_cons (ke_call (T.ok__law_deep (P := P) (base := base)) hgd (hr.mono (by omega)) T.g__law_deep T.F__law_deep.kp T.b__law_deep hx (fa_cons (fe_var (pv 0)) (fa_cons (fe_op (kAdd K) r2_addA fe_int (ke_call (T.ok__law_take (P := P) (base := base)) hgd (hr.mono (by omega)) T.g__law_take T.F__law_take.kp T.b__law_take hx (fa_cons (fe_var (pv 0)) (fa_cons fe_int fa_nil)))) fa_nil))) fa_nil)))) (fe_callTy call_int1 ra_int T.n_int (fa_cons (fe_cmp (kEqD K hu) r2_eqD (fe_var (pv 2)) fe_int) fa_nil))))
    (fss_cons (fs_if (FT.ofW (fw_and (ft_cmp op_gt r2_gt (fe_var (pv 2)) fe_int) (fw_and1 (ft_cmp op_lt r2_lt (fe_var (pv 2)) fe_int))))
    (fss_one (fs_setV (i := 3) sc__law_terms_told.nd rfl (by first | exact .inl rfl | exact .inr rfl) (ke_call (T.ok__law_bent (P := P) (base := base)) hgd (hr.mono (by omega)) T.g__law_bent T.F__law_bent.kp T.b__law_bent hx (fa_cons (fe_var (pv 0)) (fa_cons (fe_var (pv 3)) fa_nil)))))
    fss_nil)
    (fss_cons (fs_setV (i := 4) sc__law_terms_told.nd rfl (by first | exact .inl rfl | exact .inr rfl) (ke_call (T.ok__law_told (P := P) (base := base)) hgd (hr.mono (by omega)) T.g__law_told T.F__law_told.kp T.b__law_told hx (fa_cons (fe_var (pv 1)) (fa_cons (fe_var (pv 3)) fa_nil))))
    (fss_one (fs_if (ft_val (ke_call (T.ok__law_is_term (P := P) (base := base)) hgd (hr.mono (by omega)) T.g__law_is_term T.F__law_is_term.kp T.b__law_is_term hx (fa_cons (fe_var (pv 3)) (fa_cons fe_int fa_nil))))
    (fss_one (fs_if (ft_cmp (kNeD K hu) r2_neD (fe_callB (kReprU K hu hgd) ra_repr T.n_repr (fa_cons (fe_var (pv 4)) fa_nil)) (fe_callB (kReprU K hu hgd) ra_repr T.n_repr (fa_cons (fe_tup (fa_cons fe_str (fa_cons (ke_call (T.ok__law_term_table (P := P) (base := base)) hgd (hr.mono (by omega)) T.g__law_term_table T.F__law_term_table.kp T.b__law_term_table hx (fa_cons (fe_var (pv 1)) (fa_cons (fe_var (pv 3)) fa_nil))) fa_nil))) fa_nil)))
    (fss_one (fs_ret fe_bl))
    fss_nil))
    (fss_one (fs_if (ft_cmp (kNeD K hu) r2_neD (fe_var (pv 4)) (fe_tup (fa_cons fe_str (fa_cons fe_str (fa_cons fe_bl fa_nil)))))
    (fss_one (fs_ret fe_bl))
    fss_nil))))))))
    (fss_one (fs_ret fe_bl)))⟩
theorem Tx.ok__law_claims (T : Tx w K mg) : FnG P w K mg base 22 T.f__law_claims T.d__law_claims ["hand", "table"] (spM K mg 2 m__law_claims) := by
  refine ok_def T.F__law_claims sc__law_claims fun cdv A outer s H E hgd hr => ?_
  have tk := takes_def (P := P) (w := w) (K := K) (mg := mg) (base := base) (N := ["hand", "table", "word", "claims", "one", "term", "other", "told"]) (qual := "_law_claims") (sc := defScope s__law_claims) (f := T.f__law_claims) (cd := cdv) (A := A) (outer := outer) (s := s) (H := H) (E := E)
  have hx := passes_call (E := E) tk (fun _ _ _ _ h => h)
  have hu := hu_of2 hr
  exact ⟨_, fun G => (fss_cons (fs_setV (i := 2) sc__law_claims.nd rfl (by first | exact .inl rfl | exact .inr rfl) (fe_ix (kIx K) r2_ix (FN.fe (fn_lc [("word", 2), ("one", 4)] rfl sc__law_claims.nd (blkOk_by (by kernel_rfl)) (it_seq K (ke_call0 (T.ok__law_six (P := P) (base := base)) hgd (hr.mono (by omega)) T.g__law_six T.F__law_six.kp T.b__law_six hx)) (fun _ _ _ _ _ => (gk_tup K (gts_cons (gt_name (pg_name (i := 2) sc__law_claims.nd rfl (by first | exact .inl rfl | exact .inr rfl))) (gts_cons (gt_name (pg_name (i := 4) sc__law_claims.nd rfl (by first | exact .inl rfl | exact .inr rfl))) gts_nil (pgs_cons (pg_name (i := 4) sc__law_claims.nd rfl (by first | exact .inl rfl | exact .inr rfl)) pgs_nil)) (pgs_cons (pg_name (i := 2) sc__law_claims.nd rfl (by first | exact .inl rfl | exact .inr rfl)) (pgs_cons (pg_name (i := 4) sc__law_claims.nd rfl (by first | exact .inl rfl | exact .inr rfl)) pgs_nil))) (pg_tup rfl (pgs_cons (pg_name (i := 2) sc__law_claims.nd rfl (by first | exact .inl rfl | exact .inr rfl)) (pgs_cons (pg_name (i := 4) sc__law_claims.nd rfl (by first | exact .inl rfl | exact .inr rfl)) pgs_nil))))) (fun _ _ _ _ _ => fts_nil) (fun _ _ _ _ _ => (fe_var (pv 2))))) (ke_call (T.ok__law_take (P := P) (base := base)) hgd (hr.mono (by omega)) T.g__law_take T.F__law_take.kp T.b__law_take hx (fa_cons (fe_var (pv 0)) (fa_cons fe_int fa_nil)))))
    (fss_cons (fs_setV (i := 3) sc__law_claims.nd rfl (by first | exact .inl rfl | exact .inr rfl) (FN.fe (fn_lst (fa_cons (fe_tup (fa_cons (fe_var (pv 2)) (fa_cons (ke_call (T.ok__law_drawn_term (P := P) (base := base)) hgd (hr.mono (by omega)) T.g__law_drawn_term T.F__law_drawn_term.kp T.b__law_drawn_term hx (fa_cons (fe_var (pv 0)) (fa_cons fe_int fa_nil))) fa_nil))) (fa_cons (fe_tup (fa_cons (fe_var (pv 2)) (fa_cons (ke_call (T.ok__law_drawn_term (P := P) (base := base)) hgd (hr.mono (by omega)) T.g__law_drawn_term T.F__law_drawn_term.kp T.b__law_drawn_term hx (fa_cons (fe_var (pv 0)) (fa_cons fe_int fa_nil))) fa_nil))) (fa_cons (fe_tup (fa_cons fe_int (fa_cons fe_int fa_nil))) (fa_cons (fe_tup (fa_cons (fe_var (pv 2)) fa_nil)) (fa_cons fe_non (fa_cons (fe_var (pv 2)) (fa_cons (fe_tup fa_nil) (fa_cons fe_int fa_nil)))))))))))
    (fss_cons (fs_setO (i := 3) sc__law_claims.nd rfl (by first | exact .inl rfl | exact .inr rfl) (fn_op op_cat r2_cat (fe_var (pv 3)) (FN.fe (fn_lst (fa_cons (fe_tup (fa_cons (FN.fe (fn_lst fa_nil)) (fa_cons fe_int fa_nil))) (fa_cons (fe_tup (fa_cons (FN.fe (fn_lst (fa_cons fe_str fa_nil))) (fa_cons fe_int fa_nil))) (fa_cons (fe_tup (fa_cons (fe_tup (fa_cons (fe_var (pv 2)) fa_nil)) (fa_cons (fe_tup (fa_cons fe_int (fa_cons fe_int (fa_cons fe_int fa_nil)))) fa_nil))) (fa_cons (fe_tup (fa_cons fe_non (fa_cons (fe_tup (fa_cons fe_int (fa_cons fe_int (fa_cons fe_int fa_nil)))) fa_nil))) fa_nil))))))))
    (fss_cons (fs_forV own_def rfl (it_seq K (ke_call0 (T.ok__law_six (P := P) (base := base)) hgd (hr.mono (by omega)) T.g__law_six T.F__law_six.kp T.b__law_six hx)) (gk_un K (fgs_cons (fg_name (pg_name (i := 2) sc__law_claims.nd rfl (by first | exact .inl rfl | exact .inr rfl))) (fgs_cons (fg_name (pg_name (i := 4) sc__law_claims.nd rfl (by first | exact .inl rfl | exact .inr rfl))) fgs_nil (pgs_cons (pg_name (i := 4) sc__law_claims.nd rfl (by first | exact .inl rfl | exact .inr rfl)) pgs_nil)) (pgs_cons (pg_name (i := 2) sc__law_claims.nd rfl (by first | exact .inl rfl | exact .inr rfl)) (pgs_cons (pg_name (i := 4) sc__law_claims.nd rfl (by first | exact .inl rfl | exact .inr rfl)) pgs_nil))) (pg_tup rfl (pgs_cons (pg_name (i := 2) sc__law_claims.nd rfl (by first | exact .inl rfl | exact .inr rfl)) (pgs_cons (pg_name (i := 4) sc__law_claims.nd rfl (by first | exact .inl rfl | exact .inr rfl)) pgs_nil))) (pg_lst rfl (pgs_cons (pg_name (i := 2) sc__law_claims.nd rfl (by first | exact .inl rfl | exact .inr rfl)) (pgs_cons (pg_name (i := 4) sc__law_claims.nd rfl (by first | exact .inl rfl | exact .inr rfl)) pgs_nil))))
    (fss_one (fs_if (ft_cmp (kEqD K hu) r2_eqD (fe_var (pv 1)) (ke_call (T.ok__law_widened (P := P) (base := base)) hgd (hr.mono (by omega)) T.g__law_widened T.F__law_widened.kp T.b__law_widened hx (fa_cons (fe_var (pv 4)) (fa_cons (ke_call (T.ok__law_places_of (P := P) (base := base)) hgd (hr.mono (by omega)) T.g__law_places_of T.F__law_places_of.kp T.b__law_places_of hx (fa_cons (fe_var (pv 4)) fa_nil)) fa_nil))))
    (fss_one (fs_app (pv 3) (fe_tup (fa_cons (fe_var (pv 2)) (fa_cons (ke_call (T.ok__law_chain (P := P) (base := base)) hgd (hr.mono (by omega)) T.g__law_chain T.F__law_chain.kp T.b__law_chain hx (fa_cons (fe_var (pv 0)) (fa_cons (fe_var (pv 2)) fa_nil))) fa_nil)))))
    fss_nil)))
    (fss_frz 3 (fss_cons (fs_if (ft_not (ft_val (ke_call (T.ok__law_is_plain (P := P) (base := base)) hgd (hr.mono (by omega)) T.g__law_is_plain T.F__law_is_plain.kp T.b__law_is_plain hx (fa_cons (fe_var (pv 1)) fa_nil))))
    (fss_cons (fs_asgT (ke_call (T.ok_term_of (P := P) (base := base)) hgd (hr.mono (by omega)) T.g_term_of T.F_term_of.kp T.b_term_of hx (fa_cons (fe_var (pv 1)) fa_nil)) (gk_un K (fgs_cons (fg_name (pg_name (i := 2) sc__law_claims.nd rfl (by first | exact .inl rfl | exact .inr rfl))) (fgs_cons (fg_name (pg_name (i := 5) sc__law_claims.nd rfl (by first | exact .inl rfl | exact .inr rfl))) fgs_nil (pgs_cons (pg_name (i := 5) sc__law_claims.nd rfl (by first | exact .inl rfl | exact .inr rfl)) pgs_nil)) (pgs_cons (pg_name (i := 2) sc__law_claims.nd rfl (by first | exact .inl rfl | exact .inr rfl)) (pgs_cons (pg_name (i := 5) sc__law_claims.nd rfl (by first | exact .inl rfl | exact .inr rfl)) pgs_nil))) (pg_tup rfl (pgs_cons (pg_name (i := 2) sc__law_claims.nd rfl (by first | exact .inl rfl | exact .inr rfl)) (pgs_cons (pg_name (i := 5) sc__law_claims.nd rfl (by first | exact .inl rfl | exact .inr rfl)) pgs_nil))) (pg_lst rfl (pgs_cons (pg_name (i := 2) sc__law_claims.nd rfl (by first | exact .inl rfl | exact .inr rfl)) (pgs_cons (pg_name (i := 5) sc__law_claims.nd rfl (by first | exact .inl rfl | exact .inr rfl)) pgs_nil)))))
    (fss_cons (fs_setV (i := 6) sc__law_claims.nd rfl (by first | exact .inl rfl | exact .inr rfl) (fe_ix (kIx K) r2_ix (FN.fe (fn_lc [("one", 4), ("told", 7)] rfl sc__law_claims.nd (blkOk_by (by kernel_rfl)) (it_seq K (ke_call0 (T.ok__law_six (P := P) (base := base)) hgd (hr.mono (by omega)) T.g__law_six T.F__law_six.kp T.b__law_six hx)) (fun _ _ _ _ _ => (gk_tup K (gts_cons (gt_name (pg_name (i := 4) sc__law_claims.nd rfl (by first | exact .inl rfl | exact .inr rfl))) (gts_cons (gt_name (pg_name (i := 7) sc__law_claims.nd rfl (by first | exact .inl rfl | exact .inr rfl))) gts_nil (pgs_cons (pg_name (i := 7) sc__law_claims.nd rfl (by first | exact .inl rfl | exact .inr rfl)) pgs_nil)) (pgs_cons (pg_name (i := 4) sc__law_claims.nd rfl (by first | exact .inl rfl | exact .inr rfl)) (pgs_cons (pg_name (i := 7) sc__law_claims.nd rfl (by first | exact .inl rfl | exact .inr rfl)) pgs_nil))) (pg_tup rfl (pgs_cons (pg_name (i := 4) sc__law_claims.nd rfl (by first | exact .inl rfl | exact .inr rfl)) (pgs_cons (pg_name (i := 7) sc__law_claims.nd rfl (by first | exact .inl rfl | exact .inr rfl)) pgs_nil))))) (fun _ _ _ _ _ => fts_nil) (fun _ _ _ _ _ => (fe_var (pv 4))))) (ke_call (T.ok__law_take (P := P) (base := base)) hgd (hr.mono (by omega)) T.g__law_take T.F__law_take.kp T.b__law_take hx (fa_cons (fe_var (pv 0)) (fa_cons fe_int fa_nil)))))
    (fss_cons (fs_setV (i := 3) sc__law_claims.nd rfl (by first | exact .inl rfl | exact .inr rfl) (fe_op (kAdd K) r2_addA (fe_var (pv 3)) (FN.fe (fn_lst (fa_cons (fe_tup (fa_cons (fe_var (pv 2)) (fa_cons (fe_var (pv 5)) fa_nil))) (fa_cons (fe_tup (fa_cons (fe_var (pv 6)) (fa_cons (fe_var (pv 5)) fa_nil))) (fa_cons (FN.fe (fn_lst (fa_cons (fe_var (pv 2)) (fa_cons (fe_var (pv 5)) fa_nil)))) (fa_cons (fe_tup (fa_cons (fe_var (pv 2)) (fa_cons (fe_var (pv 5)) (fa_cons fe_int fa_nil)))) (fa_cons (fe_tup (fa_cons (fe_op (kAdd K) r2_addA (fe_var (pv 2)) fe_str) (fa_cons (fe_var (pv 5)) fa_nil))) fa_nil)))))))))
    (fss_cons (fs_setV (i := 3) sc__law_claims.nd rfl (by first | exact .inl rfl | exact .inr rfl) (fe_op (kAdd K) r2_addA (fe_var (pv 3)) (FN.fe (fn_lst (fa_cons (fe_tup (fa_cons (fe_var (pv 5)) (fa_cons (fe_var (pv 2)) fa_nil))) (fa_cons (fe_tup (fa_cons fe_non (fa_cons (fe_var (pv 5)) fa_nil))) (fa_cons (fe_tup (fa_cons (fe_var (pv 2)) (fa_cons (FN.fe (fn_lst (fa_cons (fe_var (pv 5)) fa_nil))) fa_nil))) fa_nil)))))))
    (fss_one (fs_if (ft_cmp op_lt r2_lt (ke_call (T.ok__law_size (P := P) (base := base)) hgd (hr.mono (by omega)) T.g__law_size T.F__law_size.kp T.b__law_size hx (fa_cons (fe_var (pv 5)) fa_nil)) fe_int)
    (fss_one (fs_setV (i := 3) sc__law_claims.nd rfl (by first | exact .inl rfl | exact .inr rfl) (fe_op (kAdd K) r2_addA (fe_var (pv 3)) (FN.fe (fn_lst (fa_cons (fe_tup (fa_cons (fe_var (pv 2)) (fa_cons (ke_call (T.ok__law_bent (P := P) (base := base)) hgd (hr.mono (by omega)) T.g__law_bent T.F__law_bent.kp T.b__law_bent hx (fa_cons (fe_var (pv 0)) (fa_cons (fe_var (pv 5)) fa_nil))) fa_nil))) (fa_cons (fe_tup (fa_cons (fe_var (pv 2)) (fa_cons (fe_tup (fa_cons (fe_var (pv 5)) (fa_cons (fe_var (pv 5)) (fa_cons (fe_var (pv 5)) fa_nil)))) fa_nil))) fa_nil)))))))
    fss_nil))))))
    fss_nil)
    (fss_one (fs_ret (fe_var (pv 3))))))))))⟩
theorem Tx.ok_law (T : Tx w K mg) : FnG P w K mg base 26 T.f_law T.d_law ["script"] (spM K mg 1 m_law) := by
  refine ok_def T.F_law sc_law fun cdv A outer s H E hgd hr => ?_
  have tk := takes_def (P := P) (w := w) (K := K) (mg := mg) (base := base) (N := ["script", "hand", "number", "table", "claim", "odd", "word", "one", "found", "j"]) (qual := "law") (sc := defScope s_law) (f := T.f_law) (cd := cdv) (A := A) (outer := outer) (s := s) (H := H) (E := E)
  have hx := passes_call (E := E) tk (fun _ _ _ _ h => h)
  have hu := hu_of2 hr
  exact ⟨_, fun G => (fss_cons (fs_setS (i := 1) sc_law.nd rfl (by first | exact .inl rfl | exact .inr rfl) (fn_lst (fa_cons (ke_call (T.ok__law_draws (P := P) (base := base)) hgd (hr.mono (by omega)) T.g__law_draws T.F__law_draws.kp T.b__law_draws hx (fa_cons (fe_var (pv 0)) (fa_cons fe_int fa_nil))) (fa_cons fe_int fa_nil))))
    (fss_cons (fs_setV (i := 2) sc_law.nd rfl (by first | exact .inl rfl | exact .inr rfl) (ke_call (T.ok__law_take (P := P) (base := base)) hgd (hr.mono (by omega)) T.g__law_take T.F__law_take.kp T.b__law_take hx (fa_cons (fe_var (pv 1)) (fa_cons fe_int fa_nil))))
    (fss_cons (fs_setV (i := 3) sc_law.nd rfl (by first | exact .inl rfl | exact .inr rfl) (fe_callTy (kTuple K) ra_tuple T.n_tuple (fa_cons (FN.fe (fn_lc [("j", 9)] rfl sc_law.nd (blkOk_by (by kernel_rfl)) (fit_range1 T.n_range (fa_cons fe_int fa_nil)) (fun _ _ _ _ _ => (gt_name (pg_name (i := 9) sc_law.nd rfl (by first | exact .inl rfl | exact .inr rfl)))) (fun _ _ _ _ _ => fts_nil) (fun _ _ _ _ _ => (fe_op op_mod r2_mod (fe_callTy call_int1 ra_int T.n_int (fa_cons (fe_op op_fdiv r2_fdiv (fe_var (pv 2)) (fe_op op_shl r2_shl fe_int (fe_var (pv 9)))) fa_nil)) fe_int)))) fa_nil)))
    (fss_cons (fs_if (ft_cmp (kEqD K hu) r2_eqD (ke_call (T.ok__law_take (P := P) (base := base)) hgd (hr.mono (by omega)) T.g__law_take T.F__law_take.kp T.b__law_take hx (fa_cons (fe_var (pv 1)) (fa_cons fe_int fa_nil))) fe_int)
    (fss_cons (fs_asgT (fe_ix (kIx K) r2_ix (ke_call0 (T.ok__law_six (P := P) (base := base)) hgd (hr.mono (by omega)) T.g__law_six T.F__law_six.kp T.b__law_six hx) (ke_call (T.ok__law_take (P := P) (base := base)) hgd (hr.mono (by omega)) T.g__law_take T.F__law_take.kp T.b__law_take hx (fa_cons (fe_var (pv 1)) (fa_cons fe_int fa_nil)))) (gk_un K (fgs_cons (fg_name (pg_name (i := 6) sc_law.nd rfl (by first | exact .inl rfl | exact .inr rfl))) (fgs_cons (fg_name (pg_name (i := 7) sc_law.nd rfl (by first | exact .inl rfl | exact .inr rfl))) fgs_nil (pgs_cons (pg_name (i := 7) sc_law.nd rfl (by first | exact .inl rfl | exact .inr rfl)) pgs_nil)) (pgs_cons (pg_name (i := 6) sc_law.nd rfl (by first | exact .inl rfl | exact .inr rfl)) (pgs_cons (pg_name (i := 7) sc_law.nd rfl (by first | exact .inl rfl | exact .inr rfl)) pgs_nil))) (pg_tup rfl (pgs_cons (pg_name (i := 6) sc_law.nd rfl (by first | exact .inl rfl | exact .inr rfl)) (pgs_cons (pg_name (i := 7) sc_law.nd rfl (by first | exact .inl rfl | exact .inr rfl)) pgs_nil))) (pg_lst rfl (pgs_cons (pg_name (i := 6) sc_law.nd rfl (by first | exact .inl rfl | exact .inr rfl)) (pgs_cons (pg_name (i := 7) sc_law.nd rfl (by first | exact .inl rfl | exact .inr rfl)) pgs_nil)))))
    (fss_one (fs_setV (i := 3) sc_law.nd rfl (by first | exact .inl rfl | exact .inr rfl) (ke_call (T.ok__law_widened (P := P) (base := base)) hgd (hr.mono (by omega)) T.g__law_widened T.F__law_widened.kp T.b__law_widened hx (fa_cons (fe_var (pv 7)) (fa_cons (ke_call (T.ok__law_places_of (P := P) (base := base)) hgd (hr.mono (by omega)) T.g__law_places_of T.F__law_places_of.kp T.b__law_places_of hx (fa_cons (fe_var (pv 7)) fa_nil)) fa_nil))))))
    fss_nil)
    (fss_cons (fs_if (ft_not (ft_val (ke_call (T.ok__law_terms_told (P := P) (base := base)) hgd (hr.mono (by omega)) T.g__law_terms_told T.F__law_terms_told.kp T.b__law_terms_told hx (fa_cons (fe_var (pv 1)) (fa_cons (fe_var (pv 3)) fa_nil)))))
    (fss_one (fs_ret fe_bl))
    fss_nil)
    (fss_cons (fs_forV own_def rfl (it_seq K (ke_call (T.ok__law_claims (P := P) (base := base)) hgd (hr.mono (by omega)) T.g__law_claims T.F__law_claims.kp T.b__law_claims hx (fa_cons (fe_var (pv 1)) (fa_cons (fe_var (pv 3)) fa_nil)))) (fg_name (pg_name (i := 4) sc_law.nd rfl (by first | exact .inl rfl | exact .inr rfl)))
    (fss_cons (fs_setV (i := 8) sc_law.nd rfl (by first | exact .inl rfl | exact .inr rfl) (ke_call (T.ok_term_holds (P := P) (base := base)) hgd (hr.mono (by omega)) T.g_term_holds T.F_term_holds.kp T.b_term_holds hx (fa_cons (fe_var (pv 3)) (fa_cons (fe_var (pv 4)) fa_nil))))
    (fss_one (fs_if (FT.ofW (fw_or (ft_not (ft_val (ke_isi K (T := "bool") T.n_isinstance T.n_bool (fe_var (pv 8))))) (fw_or1 (ft_cmp (kNeD K hu) r2_neD (fe_var (pv 8)) (ke_call (T.ok__law_claim_holds (P := P) (base := base)) hgd (hr.mono (by omega)) T.g__law_claim_holds T.F__law_claim_holds.kp T.b__law_claim_holds hx (fa_cons (fe_var (pv 3)) (fa_cons (fe_var (pv 4)) fa_nil)))))))
    (fss_one (fs_ret fe_bl))
    fss_nil))))
    (fss_cons (fs_setV (i := 5) sc_law.nd rfl (by first | exact .inl rfl | exact .inr rfl) (fe_ix (kIx K) r2_ix (FN.fe (fn_lst (fa_cons (fe_slice (kSl K) rsl (fe_var (pv 3)) fo_none (fo_some fe_int)) (fa_cons (FN.fe (fn_callTy (kList K) ra_list T.n_list (fa_cons (fe_var (pv 3)) fa_nil))) (fa_cons (fe_op (kAdd K) r2_addA (fe_var (pv 3)) (fe_tup (fa_cons fe_int fa_nil))) (fa_cons (fe_op (kAdd K) r2_addA (fe_slice (kSl K) rsl (fe_var (pv 3)) fo_none (fo_some fe_int)) (fe_tup (fa_cons fe_bl fa_nil))) (fa_cons (ke_call (T.ok__law_odd (P := P) (base := base)) hgd (hr.mono (by omega)) T.g__law_odd T.F__law_odd.kp T.b__law_odd hx (fa_cons (fe_var (pv 1)) fa_nil)) fa_nil))))))) (ke_call (T.ok__law_take (P := P) (base := base)) hgd (hr.mono (by omega)) T.g__law_take T.F__law_take.kp T.b__law_take hx (fa_cons (fe_var (pv 1)) (fa_cons fe_int fa_nil)))))
    (fss_one (fs_ret (fe_cmp (kEqD K hu) r2_eqD (ke_call (T.ok__law_told (P := P) (base := base)) hgd (hr.mono (by omega)) T.g__law_told T.F__law_told.kp T.b__law_told hx (fa_cons (fe_var (pv 5)) (fa_cons (fe_ix (kIx K) r2_ix (FN.fe (fn_lst (fa_cons fe_int (fa_cons fe_non fa_nil)))) (ke_call (T.ok__law_take (P := P) (base := base)) hgd (hr.mono (by omega)) T.g__law_take T.F__law_take.kp T.b__law_take hx (fa_cons (fe_var (pv 1)) (fa_cons fe_int fa_nil)))) fa_nil))) (fe_tup (fa_cons fe_str (fa_cons (fe_callB (kReprU K hu hgd) ra_repr T.n_repr (fa_cons (fe_var (pv 5)) fa_nil)) (fa_cons fe_bl fa_nil))))))))))))))⟩
end
end K07
set_option maxHeartbeats 4000000
/-! MirL: what mirrors come to: rules applied to a frame and a store; loops; the draws of every law. -/
namespace Mir
open PySem L2

/-- an equation that is used as such, not by computing -/
theorem nrfl {α : Type} {a b : α} (h : a = b) : a = b := h
/-! ### rules, applied -/
section
variable {α β : Type} {ρ : Rho} {S S' : Store} {f g h : Rho → Store → Res Out} {a b c : Rho → Store → Res PV} {t u : Rho → Store → Res Bool} {as : Rho → Store → Res (List PV)} {n : Rho → Store → Res SO} {i : Nat}
theorem ev_bind {x : α} {k : α → Store → Res β} : (Res.ok x S).bind k = k x S := nrfl rfl
theorem ev_bindBad {k : α → Store → Res β} : (Res.bad : Res α).bind k = .bad := nrfl rfl
theorem ev_nox {x : α} : (Res.ok x S).nox = .ok x S := nrfl rfl
theorem ev_seq : mSeq f g ρ S = (f ρ S).bind fun o S1 => match o with | .nx ρ' => g ρ' S1 | o => .ok o S1 := nrfl rfl
theorem ev_set : mSet i a ρ S = (a ρ S).bind fun x S1 => .ok (.nx (ρ.set i (.val x))) S1 := nrfl rfl
theorem ev_setOwn : mSetOwn i n ρ S = (n ρ S).bind fun x S1 => .ok (.nx (ρ.set i (.own x))) S1 := nrfl rfl
theorem ev_share : mShare i n ρ S = (n ρ S).bind fun o S1 => .ok (.nx (ρ.set i (.val (.obj S1.length)))) (S1 ++ [o]) := nrfl rfl
theorem ev_drop : mDrop a ρ S = (a ρ S).bind fun _ S1 => .ok (.nx ρ) S1 := nrfl rfl
theorem ev_ret : mRet a ρ S = (a ρ S).bind fun x S1 => .ok (.rt x) S1 := nrfl rfl
theorem ev_retOwn : mRetOwn i ρ S = match ρ[i]? with | some (.own o) => .ok (.rt (frz o)) S | _ => .bad := nrfl rfl
theorem ev_skip : mSkip ρ S = .ok (.nx ρ) S := nrfl rfl
theorem ev_brk : mBrk ρ S = .ok (.bk ρ) S := nrfl rfl
theorem ev_cnt : mCnt ρ S = .ok (.ct ρ) S := nrfl rfl
theorem ev_ifS : mIfS t f g ρ S = (t ρ S).bind fun k S1 => if k then f ρ S1 else g ρ S1 := nrfl rfl
theorem ev_frzS : mFrzS i f ρ S = f (frzAt i ρ) S := nrfl rfl
theorem ev_append : mAppend i a ρ S = match ρ[i]? with
  | some (.own _) => (a ρ S).bind fun y S1 => match ρ[i]? with
    | some (.own (.lst xs)) => if xs.length < sizeM then .ok (.nx (ρ.set i (.own (.lst (xs ++ [y]))))) S1 else .bad
    | _ => .bad
  | _ => .bad := nrfl rfl
theorem ev_setIx : mSetIx i b a ρ S = (a ρ S).bind fun y S1 => match ρ[i]? with
  | some (.own (.lst xs)) => (b ρ S1).bind fun k S2 => setIx i xs y ρ k S2
  | some (.val (.obj n)) => (b ρ S1).bind fun k S2 => setIxO n y ρ k S2
  | _ => .bad := nrfl rfl
theorem ev_for {it : Rho → Store → Res (List PV)} {tg : PV → Rho → Store → Res Rho} : mFor it tg f ρ S = (it ρ S).bind fun xs S1 => mForGo tg f xs ρ S1 := nrfl rfl
theorem ev_lc {it : Rho → Store → Res (List PV)} {tg : PV → Rho → Store → Res Rho} {vs : List Nat} : mLc it tg t a vs ρ S = (it ρ S).bind fun xs S1 => if xs.length ≤ sizeM then (mLcGo tg t a (mWipe ρ vs) xs S1).bind fun ys S2 => .ok (.lst ys) S2 else .bad := nrfl rfl
theorem ev_seqOf : mSeqOf a ρ S = (a ρ S).bind toSeq := nrfl rfl
theorem ev_range {r : List PV → Store → Res (List PV)} : mRange r as ρ S = (as ρ S).bind r := nrfl rfl
theorem ev_var : mVar i ρ S = match ρ[i]? with | some (.val x) => .ok x S | _ => .bad := nrfl rfl
theorem ev_c {x : PV} : mC x ρ S = .ok x S := nrfl rfl
theorem ev_op {r : PV → PV → Store → Res α} : mOp r a b ρ S = (a ρ S).bind fun x S1 => (b ρ S1).bind fun y S2 => r x y S2 := nrfl rfl
theorem ev_un {r : PV → Store → Res α} : mUn r a ρ S = (a ρ S).bind r := nrfl rfl
theorem ev_args {r : List PV → Store → Res α} : mArgs r as ρ S = (as ρ S).bind r := nrfl rfl
theorem ev_nil : mNil ρ S = .ok [] S := nrfl rfl
theorem ev_cons : mCons a as ρ S = (a ρ S).bind fun x S1 => (as ρ S1).bind fun xs S2 => .ok (x :: xs) S2 := nrfl rfl
theorem ev_frz : mFrz n ρ S = (n ρ S).bind fun o S1 => .ok (frz o) S1 := nrfl rfl
theorem ev_b : mB a ρ S = (a ρ S).bind toB := nrfl rfl
theorem ev_and : mAnd t u ρ S = (t ρ S).bind fun c S1 => if c then u ρ S1 else .ok false S1 := nrfl rfl
theorem ev_or : mOr t u ρ S = (t ρ S).bind fun c S1 => if c then .ok true S1 else u ρ S1 := nrfl rfl
theorem ev_not : mNot t ρ S = (t ρ S).bind fun c S1 => .ok (!c) S1 := nrfl rfl
theorem ev_andV : mAndV a b ρ S = (mB a ρ S).bind fun c S1 => if c then b ρ S1 else .ok (.bl false) S1 := nrfl rfl
theorem ev_orV : mOrV a b ρ S = (mB a ρ S).bind fun c S1 => if c then .ok (.bl true) S1 else b ρ S1 := nrfl rfl
theorem ev_notV : mNotV a ρ S = (mB a ρ S).bind fun c S1 => .ok (.bl (!c)) S1 := nrfl rfl
theorem ev_if {x y : Rho → Store → Res α} : mIf t x y ρ S = (t ρ S).bind fun c S1 => if c then x ρ S1 else y ρ S1 := nrfl rfl
theorem ev_chain {r r' : PV → PV → Store → Res PV} : mChain r r' a b c ρ S = (a ρ S).bind fun x S1 => (b ρ S1).bind fun y S2 => (r x y S2).bind fun z S3 => (toB z S3).bind fun k S4 => if k then (c ρ S4).bind fun u S5 => r' y u S5 else .ok (.bl false) S4 := nrfl rfl
theorem ev_isi {T : String} : mIsi T a ρ S = (a ρ S).bind fun x S1 => gIsi T x S1 := nrfl rfl
theorem ev_ixOwn : mIxOwn i a ρ S = match ρ[i]? with | some (.own (.lst xs)) => (a ρ S).bind fun k S1 => gIx (.lst xs) k S1 | _ => .bad := nrfl rfl
theorem ev_lenOwn : mLenOwn i ρ S = match ρ[i]? with | some (.own (.lst xs)) => .ok (.int xs.length) S | _ => .bad := nrfl rfl
theorem ev_call {k : Nat} {m : List PV → Store → Res PV} {ds : List PV} : mCall k m ds as ρ S = (as ρ S).bind fun xs S1 => if (xs ++ ds).length = k then m (xs ++ ds) S1 else .bad := nrfl rfl
theorem ev_callK {k : Nat} {m : List PV → Store → Res PV} {gP : List PV → List PV → List PV} {fk : Rho → Store → Res (List PV)} : mCallK k m gP as fk ρ S = (as ρ S).bind fun xs S1 => (fk ρ S1).bind fun ys S2 => if (gP xs ys).length = k then m (gP xs ys) S2 else .bad := nrfl rfl
theorem ev_sl {r : PV → Option Int → Option Int → Store → Res α} {l h : Rho → Store → Res (Option Int)} : mSl r a l h ρ S = (a ρ S).bind fun x S1 => (l ρ S1).bind fun i S2 => (h ρ S2).bind fun j S3 => r x i j S3 := nrfl rfl
theorem ev_part : mPart a ρ S = (a ρ S).bind fun x S1 => match x with | .int i => .ok (some i) S1 | _ => .bad := nrfl rfl
theorem ev_true : mTrue ρ S = .ok true S := nrfl rfl
theorem ev_nm {x : PV} : gNm i x ρ S = .ok (ρ.set i (.val x)) S := nrfl rfl
theorem ev_toB {k : Bool} : toB (.bl k) S = .ok k S := nrfl rfl
end
theorem toSeq_tup {xs : List PV} {S : Store} : toSeq (.tup xs) S = .ok xs S := nrfl rfl
theorem toSeq_lst {xs : List PV} {S : Store} : toSeq (.lst xs) S = .ok xs S := nrfl rfl
theorem toSeq_cl {xs : List PV} {S : Store} : toSeq (.cl xs) S = .ok xs S := nrfl rfl
/-! ### loops -/
section
variable {g : PV → Rho → Store → Res Rho} {b : Rho → Store → Res Out}
/-- a loop by an invariant over what is done -/
theorem for_inv {xs : List PV} (Pv : List PV → Rho → Store → Prop)
    (h : ∀ pre x post ρ S, xs = pre ++ x :: post → Pv pre ρ S → ∃ ρ' S', ((g x ρ S).bind (fun ρ1 S1 => b ρ1 S1) = .ok (.nx ρ') S' ∨ (g x ρ S).bind (fun ρ1 S1 => b ρ1 S1) = .ok (.ct ρ') S') ∧ Pv (pre ++ [x]) ρ' S') :
    ∀ ρ S, Pv [] ρ S → ∃ ρ' S', mForGo g b xs ρ S = .ok (.nx ρ') S' ∧ Pv xs ρ' S' := by
  have key : ∀ (post pre : List PV), xs = pre ++ post → ∀ ρ S, Pv pre ρ S → ∃ ρ' S', mForGo g b post ρ S = .ok (.nx ρ') S' ∧ Pv xs ρ' S' := by
    intro post
    induction post with
    | nil =>
      intro pre e ρ S hp
      rw [List.append_nil] at e
      exact ⟨ρ, S, rfl, e ▸ hp⟩
    | cons x post ih =>
      intro pre e ρ S hp
      obtain ⟨ρ', S', hb, hp'⟩ := h pre x post ρ S e hp
      obtain ⟨ρ2, S2, e2, h2⟩ := ih (pre ++ [x]) (by rw [e, List.append_assoc]; rfl) ρ' S' hp'
      refine ⟨ρ2, S2, ?_, h2⟩
      rw [← e2]
      show ((g x ρ S).bind fun ρ1 S1 => (b ρ1 S1).bind _) = _
      cases eg : g x ρ S with
      | bad => rw [eg] at hb; rcases hb with hb | hb <;> cases hb
      | exc c fs S1 => rw [eg] at hb; rcases hb with hb | hb <;> cases hb
      | ok ρ1 S1 =>
        rw [eg] at hb
        rcases hb with hb | hb
        · show (b ρ1 S1).bind _ = _
          rw [show b ρ1 S1 = .ok (.nx ρ') S' from hb]
          rfl
        · show (b ρ1 S1).bind _ = _
          rw [show b ρ1 S1 = .ok (.ct ρ') S' from hb]
          rfl
  intro ρ S hp
  exact key xs [] rfl ρ S hp
/-- a loop that may return -/
theorem for_ret {xs : List PV} (Pv : List PV → Rho → Store → Prop) (Rt : PV → Store → Prop)
    (h : ∀ pre x post ρ S, xs = pre ++ x :: post → Pv pre ρ S → (∃ ρ' S', ((g x ρ S).bind (fun ρ1 S1 => b ρ1 S1) = .ok (.nx ρ') S' ∨ (g x ρ S).bind (fun ρ1 S1 => b ρ1 S1) = .ok (.ct ρ') S') ∧ Pv (pre ++ [x]) ρ' S') ∨ ∃ v S', (g x ρ S).bind (fun ρ1 S1 => b ρ1 S1) = .ok (.rt v) S' ∧ Rt v S') :
    ∀ ρ S, Pv [] ρ S → (∃ ρ' S', mForGo g b xs ρ S = .ok (.nx ρ') S' ∧ Pv xs ρ' S') ∨ ∃ v S', mForGo g b xs ρ S = .ok (.rt v) S' ∧ Rt v S' := by
  have key : ∀ (post pre : List PV), xs = pre ++ post → ∀ ρ S, Pv pre ρ S → (∃ ρ' S', mForGo g b post ρ S = .ok (.nx ρ') S' ∧ Pv xs ρ' S') ∨ ∃ v S', mForGo g b post ρ S = .ok (.rt v) S' ∧ Rt v S' := by
    intro post
    induction post with
    | nil =>
      intro pre e ρ S hp
      rw [List.append_nil] at e
      exact .inl ⟨ρ, S, rfl, e ▸ hp⟩
    | cons x post ih =>
      intro pre e ρ S hp
      have un : ∀ o S', (g x ρ S).bind (fun ρ1 S1 => b ρ1 S1) = .ok o S' → mForGo g b (x :: post) ρ S = (match o with
          | .nx ρ2 => mForGo g b post ρ2 S'
          | .ct ρ2 => mForGo g b post ρ2 S'
          | .bk ρ2 => .ok (.nx ρ2) S'
          | .rt v => .ok (.rt v) S') := by
        intro o S' hb
        show ((g x ρ S).bind fun ρ1 S1 => (b ρ1 S1).bind _) = _
        cases eg : g x ρ S with
        | bad => rw [eg] at hb; cases hb
        | exc c fs S1 => rw [eg] at hb; cases hb
        | ok ρ1 S1 =>
          rw [eg] at hb
          show (b ρ1 S1).bind _ = _
          rw [show b ρ1 S1 = .ok o S' from hb]
          cases o <;> rfl
      rcases h pre x post ρ S e hp with ⟨ρ', S', hb, hp'⟩ | ⟨v, S', hb, hr⟩
      · have e2 : mForGo g b (x :: post) ρ S = mForGo g b post ρ' S' := by
          rcases hb with hb | hb
          · exact un _ _ hb
          · exact un _ _ hb
        rw [e2]
        exact ih (pre ++ [x]) (by rw [e, List.append_assoc]; rfl) ρ' S' hp'
      · exact .inr ⟨v, S', un _ _ hb, hr⟩
  intro ρ S hp
  exact key xs [] rfl ρ S hp
variable {t : Rho → Store → Res Bool} {a : Rho → Store → Res PV} {ρ : Rho}
/-- a comprehension whose items are told by a function -/
theorem lc_map {xs : List PV} {S : Store} (f : PV → PV) (h : ∀ x ∈ xs, ∃ ρ1, g x ρ S = .ok ρ1 S ∧ t ρ1 S = .ok true S ∧ a ρ1 S = .ok (f x) S) : mLcGo g t a ρ xs S = .ok (xs.map f) S := by
  induction xs with
  | nil => rfl
  | cons x xs ih =>
    obtain ⟨ρ1, h1, h2, h3⟩ := h x List.mem_cons_self
    have e := ih fun y hy => h y (List.mem_cons_of_mem _ hy)
    simp only [mLcGo, h1, h2, h3, Res.nox, Res.bind, e, if_pos, List.map_cons]
/-- .. with a test -/
theorem lc_filter {xs : List PV} {S : Store} (p : PV → Bool) (f : PV → PV) (h : ∀ x ∈ xs, ∃ ρ1, g x ρ S = .ok ρ1 S ∧ t ρ1 S = .ok (p x) S ∧ (p x = true → a ρ1 S = .ok (f x) S)) : mLcGo g t a ρ xs S = .ok ((xs.filter p).map f) S := by
  induction xs with
  | nil => rfl
  | cons x xs ih =>
    obtain ⟨ρ1, h1, h2, h3⟩ := h x List.mem_cons_self
    have e := ih fun y hy => h y (List.mem_cons_of_mem _ hy)
    cases hp : p x with
    | true => simp only [mLcGo, h1, h2, h3 hp, hp, Res.nox, Res.bind, e, if_pos, List.filter_cons, List.map_cons]
    | false => simp only [mLcGo, h1, h2, hp, Res.nox, Res.bind, e, List.filter_cons, Bool.false_eq_true, if_false]
/-- .. by an invariant over the store -/
theorem lc_inv {xs : List PV} (Pv : Store → Prop) (Yv : PV → PV → Prop) (h : ∀ x ∈ xs, ∀ S, Pv S → ∃ ρ1 y S', g x ρ S = .ok ρ1 S ∧ t ρ1 S = .ok true S ∧ a ρ1 S = .ok y S' ∧ Yv x y ∧ Pv S') :
    ∀ S, Pv S → ∃ ys S', mLcGo g t a ρ xs S = .ok ys S' ∧ Pv S' ∧ ys.length = xs.length ∧ ∀ (i : Nat) x y, xs[i]? = some x → ys[i]? = some y → Yv x y := by
  induction xs with
  | nil => intro S hp; exact ⟨[], S, rfl, hp, rfl, fun i x y e => by simp at e⟩
  | cons x xs ih =>
    intro S hp
    obtain ⟨ρ1, y, S1, h1, h2, h3, h4, h5⟩ := h x List.mem_cons_self S hp
    obtain ⟨ys, S2, e, h6, h7, h8⟩ := ih (fun z hz => h z (List.mem_cons_of_mem _ hz)) S1 h5
    refine ⟨y :: ys, S2, ?_, h6, by simp [h7], fun i x' y' e1 e2 => ?_⟩
    · simp only [mLcGo, h1, h2, h3, Res.nox, Res.bind, e, if_pos]
    · cases i with
      | zero => simp at e1 e2; subst e1 e2; exact h4
      | succ i => exact h8 i x' y' (by simpa using e1) (by simpa using e2)
end
/-! ### small facts -/
theorem small64_ok {i : Int} (h : -18446744073709551616 < i) (h2 : i < 18446744073709551616) : small64 i = true := by
  unfold small64 pow64
  simp only [Bool.and_eq_true, decide_eq_true_eq]
  exact ⟨h, h2⟩
theorem range62_ok {i : Int} (h : -4611686018427387904 ≤ i) (h2 : i < 4611686018427387904) : range62 i = true := by
  unfold range62
  simp only [Bool.and_eq_true, decide_eq_true_eq]
  exact ⟨h, h2⟩
theorem ixN_ok {n : Nat} {i : Int} (h : 0 ≤ i) (h2 : i < n) : ixN n i = some i.toNat := by
  unfold ixN
  rw [if_pos h, if_pos h2]
theorem atI_ok {α : Type} {xs : List α} {i : Int} (h : 0 ≤ i) (h2 : i < xs.length) : ∃ (hi : i.toNat < xs.length), atI xs i = some xs[i.toNat] := by
  have hi : i.toNat < xs.length := by omega
  refine ⟨hi, ?_⟩
  unfold atI
  rw [ixN_ok h h2]
  exact List.getElem?_eq_getElem hi
theorem atI_ints {ns : List Int} {i : Int} (h : 0 ≤ i) (h2 : i < ns.length) : ∃ v, atI (ns.map PV.int) i = some (.int v) ∧ v ∈ ns ∧ ns[i.toNat]? = some v := by
  obtain ⟨hi, e⟩ := atI_ok (xs := ns.map PV.int) h (by simpa using h2)
  have hi' : i.toNat < ns.length := by simpa using hi
  refine ⟨ns[i.toNat], ?_, List.getElem_mem hi', List.getElem?_eq_getElem hi'⟩
  rw [e]
  simp
theorem sizeM_eq : sizeM = 100000 := nrfl rfl
end Mir
set_option maxHeartbeats 4000000
/-! MirD: the draws that stand in every law. -/
namespace Mir
open PySem L2
def B_draws : Rho → Store → Res Out :=
  (mSeq (mSetOwn 2 (mLc (mSeqOf (mVar 0)) (gNm 5) mTrue (mArgs gAbs (mCons (mArgs gInt (mCons (mVar 5) mNil)) mNil)) [5]))
    (mSeq (mSetOwn 3 (mArgs gLst mNil))
    (mSeq (mFor (mRange gRange1 (mCons (mVar 1) mNil)) (gNm 4)
    (mSeq (mSet 5 (mVar 4))
    (mSeq (mIfS (mB (mOp gGt (mArgs gLen (mCons (mVar 0) mNil)) (mC (.int 0))))
    (mSeq (mSet 7 (mOp gMod (mVar 4) (mArgs gLen (mCons (mVar 0) mNil))))
    (mSeq (mSet 5 (mArgs gInt (mCons (mOp gIx (mVar 0) (mVar 7)) mNil)))
    (mIfS (mAnd (mB (mOp gGe (mVar 5) (mOp gPow (mC (.int 10)) (mC (.int 18))))) (mB (mOp gGt (mIxOwn 2 (mVar 7)) (mC (.int 0)))))
    (mSeq (mAppend 3 (mOp gMod (mArgs gInt (mCons (mIxOwn 2 (mVar 7)) mNil)) (mC (.int 1000003))))
    (mSeq (mSetIx 2 (mVar 7) (mOp gFdiv (mArgs gInt (mCons (mIxOwn 2 (mVar 7)) mNil)) (mC (.int 1000003))))
    mCnt))
    mSkip)))
    mSkip)
    (mSeq (mSet 6 (mOp gMod (mArgs gInt (mCons (mOp gAddA (mOp gAddA (mOp gMulA (mVar 5) (mC (.int 48271))) (mOp gMulA (mVar 4) (mC (.int 69621)))) (mC (.int 11))) mNil)) (mC (.int 2147483647))))
    (mSeq (mSet 6 (mOp gMod (mArgs gInt (mCons (mOp gAddA (mOp gFdiv (mOp gMulA (mVar 6) (mVar 6)) (mC (.int 4096))) (mVar 6)) mNil)) (mC (.int 2147483629))))
    (mAppend 3 (mOp gMod (mArgs gInt (mCons (mOp gAddA (mOp gFdiv (mOp gMulA (mVar 6) (mVar 6)) (mC (.int 4096))) (mOp gMulA (mVar 4) (mC (.int 7919)))) mNil)) (mC (.int 2147483629)))))))))
    (mFrzS 2 (mRetOwn 3)))))
def B_take : Rho → Store → Res Out :=
  (mSeq (mSet 2 (mOp gIx (mVar 0) (mC (.int 1))))
    (mSeq (mSetIx 0 (mC (.int 1)) (mOp gAddA (mVar 2) (mC (.int 1))))
    (mSeq (mSet 3 (mOp gIx (mVar 0) (mC (.int 0))))
    (mSeq (mIfS (mB (mOp gGe (mVar 2) (mArgs gLen (mCons (mVar 3) mNil))))
    (mRet (mC (.int 0)))
    mSkip)
    (mRet (mOp gMod (mOp gFdiv (mArgs gInt (mCons (mOp gIx (mVar 3) (mVar 2)) mNil)) (mC (.int 7))) (mVar 1)))))))

/-- a hand of draws stands first in the store -/
def Hand (S : Store) (R : Store) : Prop := ∃ (ds : List Int) (k : Int), S = .lst [.lst (ds.map PV.int), .int k] :: R ∧ 0 ≤ k ∧ ∀ d ∈ ds, 0 ≤ d

theorem take_ok {S R : Store} {many : Int} (h : Hand S R) (hm : 0 < many) : ∃ v S', mDef 4 B_take [.obj 0, .int many] S = .ok (.int v) S' ∧ Hand S' R ∧ 0 ≤ v ∧ v < many := by
  obtain ⟨ds, k, rfl, hk, hd⟩ := h
  have H' : Hand (.lst [.lst (ds.map PV.int), .int (k + 1)] :: R) R := ⟨ds, k + 1, rfl, by omega, hd⟩
  have i1 : ixN 2 1 = some 1 := rfl
  have a1 : ∀ (x y : PV), atI [x, y] 1 = some y := fun _ _ => rfl
  have a0 : ∀ (x y : PV), atI [x, y] 0 = some x := fun _ _ => rfl
  by_cases hlt : k < ds.length
  · obtain ⟨v, e, hv, _⟩ := atI_ints (ns := ds) hk hlt
    have v0 := hd v hv
    refine ⟨v / 7 % many, _, ?_, H', Int.emod_nonneg _ (by omega), Int.emod_lt_of_pos _ hm⟩
    show (B_take [.val (.obj 0), .val (.int many), .none, .none] _).bind toRet = _
    unfold B_take
    simp only [ev_bind, ev_nox, ev_seq, ev_set, ev_setOwn, ev_share, ev_drop, ev_ret, ev_retOwn, ev_skip, ev_brk, ev_cnt, ev_ifS, ev_frzS, ev_append, ev_setIx, ev_for, ev_lc, ev_seqOf, ev_range, ev_var, ev_c, ev_op, ev_un, ev_args, ev_nil, ev_cons, ev_frz, ev_b, ev_and, ev_or, ev_not, ev_andV, ev_orV, ev_notV, ev_if, ev_chain, ev_isi, ev_ixOwn, ev_lenOwn, ev_call, ev_callK, ev_sl, ev_part, ev_true, ev_nm, ev_toB, frz, frzAt, toSeq_tup, toSeq_lst, toSeq_cl, toRet, mWipe, kbG, Mir.gTup, Mir.gLst, List.getElem?_cons_zero, List.getElem?_cons_succ, List.set_cons_zero, List.set_cons_succ, List.length_cons, List.length_nil, List.append_nil, List.nil_append, List.cons_append, Nat.reduceAdd, Nat.reduceLeDiff, Nat.reduceEqDiff, Nat.zero_add, reduceIte, Bool.false_eq_true, Bool.not_true, Bool.not_false, and_self, sizeM_eq, gAddA, gAdd, gMulA, gMul, Mir.gSub, gFdiv, gMod, gLt, gLe, gGt, gGe, gLen, gInt, gAbs, gNeg, gIx, a1, a0, setIxO, i1, List.length_map, e, decide_eq_true_eq, show ¬ ((ds.length : Int) ≤ k) by omega, decide_false, show (0 : Int) < 7 by decide, decide_true, show (7 : Int) < 1073741824 by decide, Bool.and_self, hm]
  · refine ⟨0, _, ?_, H', by omega, hm⟩
    show (B_take [.val (.obj 0), .val (.int many), .none, .none] _).bind toRet = _
    unfold B_take
    simp only [ev_bind, ev_nox, ev_seq, ev_set, ev_setOwn, ev_share, ev_drop, ev_ret, ev_retOwn, ev_skip, ev_brk, ev_cnt, ev_ifS, ev_frzS, ev_append, ev_setIx, ev_for, ev_lc, ev_seqOf, ev_range, ev_var, ev_c, ev_op, ev_un, ev_args, ev_nil, ev_cons, ev_frz, ev_b, ev_and, ev_or, ev_not, ev_andV, ev_orV, ev_notV, ev_if, ev_chain, ev_isi, ev_ixOwn, ev_lenOwn, ev_call, ev_callK, ev_sl, ev_part, ev_true, ev_nm, ev_toB, frz, frzAt, toSeq_tup, toSeq_lst, toSeq_cl, toRet, mWipe, kbG, Mir.gTup, Mir.gLst, List.getElem?_cons_zero, List.getElem?_cons_succ, List.set_cons_zero, List.set_cons_succ, List.length_cons, List.length_nil, List.append_nil, List.nil_append, List.cons_append, Nat.reduceAdd, Nat.reduceLeDiff, Nat.reduceEqDiff, Nat.zero_add, reduceIte, Bool.false_eq_true, Bool.not_true, Bool.not_false, and_self, sizeM_eq, gAddA, gAdd, gMulA, gMul, Mir.gSub, gFdiv, gMod, gLt, gLe, gGt, gGe, gLen, gInt, gAbs, gNeg, gIx, a1, a0, setIxO, i1, List.length_map, decide_eq_true_eq, show ((ds.length : Int) ≤ k) by omega, decide_true]

theorem cat_map (ds : List Int) (v : Int) : ds.map PV.int ++ [.int v] = (ds ++ [v]).map PV.int := by simp
theorem set_map (ds : List Int) (i : Nat) (v : Int) : (ds.map PV.int).set i (.int v) = (ds.set i v).map PV.int := by simp
/-- the last rows of a draw's turn -/
def B_mix : Rho → Store → Res Out :=
  (mSeq (mSet 6 (mOp gMod (mArgs gInt (mCons (mOp gAddA (mOp gAddA (mOp gMulA (mVar 5) (mC (.int 48271))) (mOp gMulA (mVar 4) (mC (.int 69621)))) (mC (.int 11))) mNil)) (mC (.int 2147483647))))
    (mSeq (mSet 6 (mOp gMod (mArgs gInt (mCons (mOp gAddA (mOp gFdiv (mOp gMulA (mVar 6) (mVar 6)) (mC (.int 4096))) (mVar 6)) mNil)) (mC (.int 2147483629))))
    (mAppend 3 (mOp gMod (mArgs gInt (mCons (mOp gAddA (mOp gFdiv (mOp gMulA (mVar 6) (mVar 6)) (mC (.int 4096))) (mOp gMulA (mVar 4) (mC (.int 7919)))) mNil)) (mC (.int 2147483629))))))
theorem mix_ok {p0 p1 s2 s6 s7 : Slot} {ds : List Int} {k c : Int} {S : Store} (hz : ds.length < 100000) : ∃ d m, 0 ≤ d ∧ B_mix [p0, p1, s2, .own (.lst (ds.map PV.int)), .val (.int k), .val (.int c), s6, s7] S = .ok (.nx [p0, p1, s2, .own (.lst ((ds ++ [d]).map PV.int)), .val (.int k), .val (.int c), .val (.int m), s7]) S := by
  have w1 : small64 48271 = true := by decide
  have w2 : small64 69621 = true := by decide
  have w3 : small64 7919 = true := by decide
  have e1 := Int.emod_nonneg (c * 48271 + k * 69621 + 11) (show (2147483647 : Int) ≠ 0 by decide)
  have e2 := Int.emod_lt_of_pos (c * 48271 + k * 69621 + 11) (show (0 : Int) < 2147483647 by decide)
  generalize hA : (c * 48271 + k * 69621 + 11) % 2147483647 = A at e1 e2
  have f1 := Int.emod_nonneg (A * A / 4096 + A) (show (2147483629 : Int) ≠ 0 by decide)
  have f2 := Int.emod_lt_of_pos (A * A / 4096 + A) (show (0 : Int) < 2147483629 by decide)
  generalize hB : (A * A / 4096 + A) % 2147483629 = B at f1 f2
  have sA : small64 A = true := small64_ok (by omega) (by omega)
  have sB : small64 B = true := small64_ok (by omega) (by omega)
  refine ⟨(B * B / 4096 + k * 7919) % 2147483629, B, Int.emod_nonneg _ (by decide), ?_⟩
  unfold B_mix
  simp only [ev_bind, ev_nox, ev_seq, ev_set, ev_setOwn, ev_share, ev_drop, ev_ret, ev_retOwn, ev_skip, ev_brk, ev_cnt, ev_ifS, ev_frzS, ev_append, ev_setIx, ev_for, ev_lc, ev_seqOf, ev_range, ev_var, ev_c, ev_op, ev_un, ev_args, ev_nil, ev_cons, ev_frz, ev_b, ev_and, ev_or, ev_not, ev_andV, ev_orV, ev_notV, ev_if, ev_chain, ev_isi, ev_ixOwn, ev_lenOwn, ev_call, ev_callK, ev_sl, ev_part, ev_true, ev_nm, ev_toB, frz, frzAt, toSeq_tup, toSeq_lst, toSeq_cl, toRet, mWipe, kbG, Mir.gTup, Mir.gLst, List.getElem?_cons_zero, List.getElem?_cons_succ, List.set_cons_zero, List.set_cons_succ, List.length_cons, List.length_nil, List.append_nil, List.nil_append, List.cons_append, Nat.reduceAdd, Nat.reduceLeDiff, Nat.reduceEqDiff, Nat.zero_add, reduceIte, Bool.false_eq_true, Bool.not_true, Bool.not_false, and_self, sizeM_eq, gAddA, gAdd, gMulA, gMul, Mir.gSub, gFdiv, gMod, gLt, gLe, gGt, gGe, gLen, gInt, gAbs, gNeg, w1, w2, w3, Bool.or_true, hA, sA, hB, sB, show (0 : Int) < 2147483647 by decide, show (0 : Int) < 2147483629 by decide, show (0 : Int) < 4096 by decide, show (4096 : Int) < 1073741824 by decide, decide_true, Bool.and_self, Bool.true_or, List.length_map, hz, cat_map]
def B_turn : Rho → Store → Res Out :=
  (mSeq (mSet 5 (mVar 4))
    (mSeq (mIfS (mB (mOp gGt (mArgs gLen (mCons (mVar 0) mNil)) (mC (.int 0))))
    (mSeq (mSet 7 (mOp gMod (mVar 4) (mArgs gLen (mCons (mVar 0) mNil))))
    (mSeq (mSet 5 (mArgs gInt (mCons (mOp gIx (mVar 0) (mVar 7)) mNil)))
    (mIfS (mAnd (mB (mOp gGe (mVar 5) (mOp gPow (mC (.int 10)) (mC (.int 18))))) (mB (mOp gGt (mIxOwn 2 (mVar 7)) (mC (.int 0)))))
    (mSeq (mAppend 3 (mOp gMod (mArgs gInt (mCons (mIxOwn 2 (mVar 7)) mNil)) (mC (.int 1000003))))
    (mSeq (mSetIx 2 (mVar 7) (mOp gFdiv (mArgs gInt (mCons (mIxOwn 2 (mVar 7)) mNil)) (mC (.int 1000003))))
    mCnt))
    mSkip)))
    mSkip)
    B_mix))
/-- what stands between two turns -/
def DrawInv (ns : List Int) (n : Nat) (S : Store) (pre : List PV) (ρ : Rho) (S' : Store) : Prop := ∃ (rs ds : List Int) (s4 s5 s6 s7 : Slot), ρ = [.val (.cl (ns.map PV.int)), .val (.int n), .own (.lst (rs.map PV.int)), .own (.lst (ds.map PV.int)), s4, s5, s6, s7] ∧ S' = S ∧ rs.length = ns.length ∧ ds.length = pre.length ∧ ∀ d ∈ ds, 0 ≤ d
theorem turn_ok {ns : List Int} {n : Nat} (hn : n ≤ 90000) {S S' : Store} {pre post : List PV} {x : PV} {ρ : Rho} (ex : (List.range n).map (fun (k : Nat) => PV.int (k : Int)) = pre ++ x :: post) (h : DrawInv ns n S pre ρ S') :
    ∃ ρ' S2, ((gNm 4 x ρ S').bind (fun ρ1 S1 => B_turn ρ1 S1) = .ok (.nx ρ') S2 ∨ (gNm 4 x ρ S').bind (fun ρ1 S1 => B_turn ρ1 S1) = .ok (.ct ρ') S2) ∧ DrawInv ns n S (pre ++ [x]) ρ' S2 := by
    obtain ⟨rs, ds, s4, s5, s6, s7, rfl, rfl, hr, hd, h0⟩ := h
    have hx : ∃ k : Nat, x = .int k := by
      have : x ∈ (List.range n).map fun (k : Nat) => PV.int (k : Int) := by rw [ex]; simp
      obtain ⟨k, _, rfl⟩ := List.mem_map.mp this
      exact ⟨k, rfl⟩
    obtain ⟨k, rfl⟩ := hx
    have hlen : pre.length < n := by
      have := congrArg List.length ex
      simp at this; omega
    have hz : ds.length < 100000 := by omega
    have add0 : ∀ v : Int, 0 ≤ v → ∀ d ∈ ds ++ [v], 0 ≤ d := fun v hv d hd => by
      rcases List.mem_append.mp hd with h | h
      · exact h0 d h
      · rw [List.mem_singleton.mp h]; exact hv
    by_cases he : ns.length = 0
    · obtain ⟨d, m, h1, h2⟩ := mix_ok (p0 := .val (.cl (ns.map PV.int))) (p1 := .val (.int n)) (s2 := .own (.lst (rs.map PV.int))) (s6 := s6) (s7 := s7) (k := (k : Int)) (c := (k : Int)) (S := S') hz
      refine ⟨_, S', .inl ?_, rs, ds ++ [d], .val (.int k), .val (.int k), .val (.int m), s7, rfl, rfl, hr, by simp [hd], add0 d h1⟩
      unfold B_turn
      simp only [ev_bind, ev_nox, ev_seq, ev_set, ev_setOwn, ev_share, ev_drop, ev_ret, ev_retOwn, ev_skip, ev_brk, ev_cnt, ev_ifS, ev_frzS, ev_append, ev_setIx, ev_for, ev_lc, ev_seqOf, ev_range, ev_var, ev_c, ev_op, ev_un, ev_args, ev_nil, ev_cons, ev_frz, ev_b, ev_and, ev_or, ev_not, ev_andV, ev_orV, ev_notV, ev_if, ev_chain, ev_isi, ev_ixOwn, ev_lenOwn, ev_call, ev_callK, ev_sl, ev_part, ev_true, ev_nm, ev_toB, frz, frzAt, toSeq_tup, toSeq_lst, toSeq_cl, toRet, mWipe, kbG, Mir.gTup, Mir.gLst, List.getElem?_cons_zero, List.getElem?_cons_succ, List.set_cons_zero, List.set_cons_succ, List.length_cons, List.length_nil, List.append_nil, List.nil_append, List.cons_append, Nat.reduceAdd, Nat.reduceLeDiff, Nat.reduceEqDiff, Nat.zero_add, reduceIte, Bool.false_eq_true, Bool.not_true, Bool.not_false, and_self, sizeM_eq, gAddA, gAdd, gMulA, gMul, Mir.gSub, gFdiv, gMod, gLt, gLe, gGt, gGe, gLen, gInt, gAbs, gNeg, List.length_map, decide_eq_true_eq, show ¬ (0 : Int) < (ns.length : Int) by omega, decide_false, h2]
    · have hpos : (0 : Int) < ns.length := by omega
      have m1 := Int.emod_nonneg (k : Int) (show (ns.length : Int) ≠ 0 by omega)
      have m2 := Int.emod_lt_of_pos (k : Int) hpos
      generalize hA : (k : Int) % (ns.length : Int) = A at m1 m2
      obtain ⟨c, e1, _, _⟩ := atI_ints (ns := ns) m1 m2
      obtain ⟨r, e2, _, _⟩ := atI_ints (ns := rs) m1 (by omega)
      have p18 : cpow 10 18 = true := by decide
      have ix : ixN rs.length A = some A.toNat := ixN_ok m1 (by omega)
      obtain ⟨d, m, h1, h2⟩ := mix_ok (p0 := .val (.cl (ns.map PV.int))) (p1 := .val (.int n)) (s2 := .own (.lst (rs.map PV.int))) (s6 := s6) (s7 := .val (.int A)) (k := (k : Int)) (c := c) (S := S') hz
      by_cases hc : (10 : Int) ^ (18 : Int).toNat ≤ c
      · by_cases hr0 : 0 < r
        · refine ⟨_, S', .inr ?_, rs.set A.toNat (r / 1000003), ds ++ [r % 1000003], .val (.int k), .val (.int c), s6, .val (.int A), rfl, rfl, by simp [hr], by simp [hd], add0 _ (Int.emod_nonneg _ (by decide))⟩
          unfold B_turn
          simp only [ev_bind, ev_nox, ev_seq, ev_set, ev_setOwn, ev_share, ev_drop, ev_ret, ev_retOwn, ev_skip, ev_brk, ev_cnt, ev_ifS, ev_frzS, ev_append, ev_setIx, ev_for, ev_lc, ev_seqOf, ev_range, ev_var, ev_c, ev_op, ev_un, ev_args, ev_nil, ev_cons, ev_frz, ev_b, ev_and, ev_or, ev_not, ev_andV, ev_orV, ev_notV, ev_if, ev_chain, ev_isi, ev_ixOwn, ev_lenOwn, ev_call, ev_callK, ev_sl, ev_part, ev_true, ev_nm, ev_toB, frz, frzAt, toSeq_tup, toSeq_lst, toSeq_cl, toRet, mWipe, kbG, Mir.gTup, Mir.gLst, List.getElem?_cons_zero, List.getElem?_cons_succ, List.set_cons_zero, List.set_cons_succ, List.length_cons, List.length_nil, List.append_nil, List.nil_append, List.cons_append, Nat.reduceAdd, Nat.reduceLeDiff, Nat.reduceEqDiff, Nat.zero_add, reduceIte, Bool.false_eq_true, Bool.not_true, Bool.not_false, and_self, sizeM_eq, gAddA, gAdd, gMulA, gMul, Mir.gSub, gFdiv, gMod, gLt, gLe, gGt, gGe, gLen, gInt, gAbs, gNeg, gIx, gPow, p18, setIx, ix, List.length_map, decide_eq_true_eq, hpos, decide_true, hA, e1, e2, hc, hr0, show (0 : Int) < 1000003 by decide, show (1000003 : Int) < 1073741824 by decide, Bool.and_self, hz, cat_map, set_map]
        · refine ⟨_, S', .inl ?_, rs, ds ++ [d], .val (.int k), .val (.int c), .val (.int m), .val (.int A), rfl, rfl, hr, by simp [hd], add0 d h1⟩
          unfold B_turn
          simp only [ev_bind, ev_nox, ev_seq, ev_set, ev_setOwn, ev_share, ev_drop, ev_ret, ev_retOwn, ev_skip, ev_brk, ev_cnt, ev_ifS, ev_frzS, ev_append, ev_setIx, ev_for, ev_lc, ev_seqOf, ev_range, ev_var, ev_c, ev_op, ev_un, ev_args, ev_nil, ev_cons, ev_frz, ev_b, ev_and, ev_or, ev_not, ev_andV, ev_orV, ev_notV, ev_if, ev_chain, ev_isi, ev_ixOwn, ev_lenOwn, ev_call, ev_callK, ev_sl, ev_part, ev_true, ev_nm, ev_toB, frz, frzAt, toSeq_tup, toSeq_lst, toSeq_cl, toRet, mWipe, kbG, Mir.gTup, Mir.gLst, List.getElem?_cons_zero, List.getElem?_cons_succ, List.set_cons_zero, List.set_cons_succ, List.length_cons, List.length_nil, List.append_nil, List.nil_append, List.cons_append, Nat.reduceAdd, Nat.reduceLeDiff, Nat.reduceEqDiff, Nat.zero_add, reduceIte, Bool.false_eq_true, Bool.not_true, Bool.not_false, and_self, sizeM_eq, gAddA, gAdd, gMulA, gMul, Mir.gSub, gFdiv, gMod, gLt, gLe, gGt, gGe, gLen, gInt, gAbs, gNeg, gIx, gPow, p18, List.length_map, decide_eq_true_eq, hpos, decide_true, hA, e1, e2, hc, hr0, decide_false, h2]
      · refine ⟨_, S', .inl ?_, rs, ds ++ [d], .val (.int k), .val (.int c), .val (.int m), .val (.int A), rfl, rfl, hr, by simp [hd], add0 d h1⟩
        unfold B_turn
        simp only [ev_bind, ev_nox, ev_seq, ev_set, ev_setOwn, ev_share, ev_drop, ev_ret, ev_retOwn, ev_skip, ev_brk, ev_cnt, ev_ifS, ev_frzS, ev_append, ev_setIx, ev_for, ev_lc, ev_seqOf, ev_range, ev_var, ev_c, ev_op, ev_un, ev_args, ev_nil, ev_cons, ev_frz, ev_b, ev_and, ev_or, ev_not, ev_andV, ev_orV, ev_notV, ev_if, ev_chain, ev_isi, ev_ixOwn, ev_lenOwn, ev_call, ev_callK, ev_sl, ev_part, ev_true, ev_nm, ev_toB, frz, frzAt, toSeq_tup, toSeq_lst, toSeq_cl, toRet, mWipe, kbG, Mir.gTup, Mir.gLst, List.getElem?_cons_zero, List.getElem?_cons_succ, List.set_cons_zero, List.set_cons_succ, List.length_cons, List.length_nil, List.append_nil, List.nil_append, List.cons_append, Nat.reduceAdd, Nat.reduceLeDiff, Nat.reduceEqDiff, Nat.zero_add, reduceIte, Bool.false_eq_true, Bool.not_true, Bool.not_false, and_self, sizeM_eq, gAddA, gAdd, gMulA, gMul, Mir.gSub, gFdiv, gMod, gLt, gLe, gGt, gGe, gLen, gInt, gAbs, gNeg, gIx, gPow, p18, List.length_map, decide_eq_true_eq, hpos, decide_true, hA, e1, e2, hc, decide_false, h2]
theorem draws_ok {ns : List Int} {n : Nat} (hn : n ≤ 90000) (hl : ns.length ≤ 1000) (S : Store) : ∃ ds : List Int, ds.length = n ∧ (∀ d ∈ ds, 0 ≤ d) ∧ mDef 8 B_draws [.cl (ns.map PV.int), .int n] S = .ok (.lst (ds.map PV.int)) S := by
  have lc : mLcGo (gNm 5) mTrue (mArgs gAbs (mCons (mArgs gInt (mCons (mVar 5) mNil)) mNil)) [.val (.cl (ns.map PV.int)), .val (.int n), .none, .none, .none, .none, .none, .none] (ns.map PV.int) S = .ok ((ns.map fun i => if i < 0 then -i else i).map PV.int) S := by
    have := lc_map (g := gNm 5) (t := mTrue) (a := mArgs gAbs (mCons (mArgs gInt (mCons (mVar 5) mNil)) mNil)) (ρ := [.val (.cl (ns.map PV.int)), .val (.int n), .none, .none, .none, .none, .none, .none]) (S := S) (xs := ns.map PV.int)
      (fun x => match x with | .int i => .int (if i < 0 then -i else i) | x => x) fun x hx => by
        obtain ⟨i, _, rfl⟩ := List.mem_map.mp hx
        exact ⟨_, rfl, rfl, rfl⟩
    rw [this, List.map_map, List.map_map]
    rfl
  obtain ⟨ρ', S', e, rs, ds, s4, s5, s6, s7, rfl, rfl, hr, hd, h0⟩ := for_inv (g := gNm 4) (b := B_turn) (xs := (List.range n).map fun (k : Nat) => PV.int (k : Int)) (DrawInv ns n S) (fun pre x post ρ S' ex h => turn_ok hn ex h) [.val (.cl (ns.map PV.int)), .val (.int n), .own (.lst ((ns.map fun i => if i < 0 then -i else i).map PV.int)), .own (.lst []), .none, .none, .none, .none] S ⟨_, [], _, _, _, _, rfl, rfl, by simp, rfl, fun d h => nomatch h⟩
  refine ⟨ds, by simpa using hd, h0, ?_⟩
  show (B_draws [.val (.cl (ns.map PV.int)), .val (.int n), .none, .none, .none, .none, .none, .none] _).bind toRet = _
  have r62 : range62 (n : Int) = true := range62_ok (by omega) (by omega)
  unfold B_draws
  simp only [ev_bind, ev_nox, ev_seq, ev_set, ev_setOwn, ev_share, ev_drop, ev_ret, ev_retOwn, ev_skip, ev_brk, ev_cnt, ev_ifS, ev_frzS, ev_append, ev_setIx, ev_for, ev_lc, ev_seqOf, ev_range, ev_var, ev_c, ev_op, ev_un, ev_args, ev_nil, ev_cons, ev_frz, ev_b, ev_and, ev_or, ev_not, ev_andV, ev_orV, ev_notV, ev_if, ev_chain, ev_isi, ev_ixOwn, ev_lenOwn, ev_call, ev_callK, ev_sl, ev_part, ev_true, ev_nm, ev_toB, frz, frzAt, toSeq_tup, toSeq_lst, toSeq_cl, toRet, mWipe, kbG, Mir.gTup, Mir.gLst, List.getElem?_cons_zero, List.getElem?_cons_succ, List.set_cons_zero, List.set_cons_succ, List.length_cons, List.length_nil, List.append_nil, List.nil_append, List.cons_append, Nat.reduceAdd, Nat.reduceLeDiff, Nat.reduceEqDiff, Nat.zero_add, reduceIte, Bool.false_eq_true, Bool.not_true, Bool.not_false, and_self, sizeM_eq, lc, List.length_map, show ns.length ≤ 100000 by omega, gRange1, r62, Int.toNat_natCast]
  unfold B_turn B_mix at e
  rw [e]
  simp only [ev_bind, ev_nox, ev_seq, ev_set, ev_setOwn, ev_share, ev_drop, ev_ret, ev_retOwn, ev_skip, ev_brk, ev_cnt, ev_ifS, ev_frzS, ev_append, ev_setIx, ev_for, ev_lc, ev_seqOf, ev_range, ev_var, ev_c, ev_op, ev_un, ev_args, ev_nil, ev_cons, ev_frz, ev_b, ev_and, ev_or, ev_not, ev_andV, ev_orV, ev_notV, ev_if, ev_chain, ev_isi, ev_ixOwn, ev_lenOwn, ev_call, ev_callK, ev_sl, ev_part, ev_true, ev_nm, ev_toB, frz, frzAt, toSeq_tup, toSeq_lst, toSeq_cl, toRet, mWipe, kbG, Mir.gTup, Mir.gLst, List.getElem?_cons_zero, List.getElem?_cons_succ, List.set_cons_zero, List.set_cons_succ, List.length_cons, List.length_nil, List.append_nil, List.nil_append, List.cons_append, Nat.reduceAdd, Nat.reduceLeDiff, Nat.reduceEqDiff, Nat.zero_add, reduceIte, Bool.false_eq_true, Bool.not_true, Bool.not_false, and_self, sizeM_eq]
end Mir
set_option maxHeartbeats 4000000
/-! MirE: rows of values, their texts. -/
namespace Mir
open PySem L2
/-- a row -/
def rowP (r : List Int) : PV := .tup (r.map PV.int)
def Bits (r : List Int) : Prop := ∀ b ∈ r, b = 0 ∨ b = 1
/-- all rows of n values, ascending -/
def rowsE : Nat → List (List Int)
  | 0 => [[]]
  | n + 1 => (rowsE n).flatMap fun r => [r ++ [0], r ++ [1]]
theorem rowsE_len : ∀ n, (rowsE n).length = 2 ^ n
  | 0 => rfl
  | n + 1 => by
    have h := rowsE_len n
    have e : ∀ l : List (List Int), (l.flatMap fun r => [r ++ [0], r ++ [1]]).length = 2 * l.length := fun l => by
      induction l with
      | nil => rfl
      | cons x l ih => rw [List.flatMap_cons, List.length_append, ih]; simp; omega
    show ((rowsE n).flatMap _).length = _
    rw [e, h, Nat.pow_succ, Nat.mul_comm]
theorem rowsE_mem : ∀ {n} {r : List Int}, r ∈ rowsE n → r.length = n ∧ Bits r
  | 0, r, h => by
    have e : r = [] := by simpa [rowsE] using h
    subst e
    exact ⟨rfl, fun b h => nomatch h⟩
  | n + 1, r, h => by
    obtain ⟨r', h1, h2⟩ := List.mem_flatMap.mp (show r ∈ (rowsE n).flatMap fun r => [r ++ [0], r ++ [1]] from h)
    obtain ⟨h3, h4⟩ := rowsE_mem h1
    have h2' : r = r' ++ [0] ∨ r = r' ++ [1] := by simpa using h2
    have key : ∀ v : Int, (v = 0 ∨ v = 1) → Bits (r' ++ [v]) := fun v hv b hb => by
      rcases List.mem_append.mp hb with hb | hb
      · exact h4 b hb
      · rw [List.mem_singleton.mp hb]; exact hv
    rcases h2' with rfl | rfl
    · exact ⟨by simp [h3], key 0 (.inl rfl)⟩
    · exact ⟨by simp [h3], key 1 (.inr rfl)⟩
def B_longer : Rho → Store → Res Out :=
  (mSet 3 (mOp gAddA (mVar 3) (mFrz (mArgs gLst (mCons (mOp gAddA (mVar 4) (mArgs gTup (mCons (mC (.int 0)) mNil))) (mCons (mOp gAddA (mVar 4) (mArgs gTup (mCons (mC (.int 1)) mNil))) mNil))))))
def B_everyT : Rho → Store → Res Out :=
  (mSeq (mSet 3 (mFrz (mArgs gLst mNil)))
    (mSeq (mFor (mSeqOf (mVar 1)) (gNm 4)
    B_longer)
    (mSet 1 (mVar 3))))
def B_every : Rho → Store → Res Out :=
  (mSeq (mSet 1 (mFrz (mArgs gLst (mCons (mArgs gTup mNil) mNil))))
    (mSeq (mFor (mRange gRange1 (mCons (mVar 0) mNil)) (gNm 2)
    B_everyT)
    (mRet (mVar 1))))
theorem longer_ok {p0 p1 s2 s4 : Slot} {S : Store} {rs : List (List Int)} (hr : ∀ r ∈ rs, r.length ≤ 1000) (hz : 2 * rs.length ≤ 90000) :
    ∃ s4', mForGo (gNm 4) B_longer (rs.map rowP) [p0, p1, s2, .val (.lst []), s4] S = .ok (.nx [p0, p1, s2, .val (.lst ((rs.flatMap fun r => [r ++ [0], r ++ [1]]).map rowP)), s4']) S := by
  obtain ⟨ρ', S', e, L, s, hL, rfl, rfl⟩ := for_inv (g := gNm 4) (b := B_longer) (xs := rs.map rowP) (fun pre ρ S' => ∃ (L : List (List Int)) (s : Slot), pre = L.map rowP ∧ S' = S ∧ ρ = [p0, p1, s2, .val (.lst ((L.flatMap fun r => [r ++ [0], r ++ [1]]).map rowP)), s]) (by
    rintro pre x post ρ S' ex ⟨L, s, rfl, rfl, rfl⟩
    have hx : x ∈ rs.map rowP := by rw [ex]; simp
    obtain ⟨r, hr1, rfl⟩ := List.mem_map.mp hx
    have hl := hr r hr1
    have hlen : L.length < rs.length := by
      have := congrArg List.length ex
      simp at this; omega
    have el : ∀ l : List (List Int), (l.flatMap fun r => [r ++ [0], r ++ [1]]).length = 2 * l.length := fun l => by
      induction l with
      | nil => rfl
      | cons x l ih => rw [List.flatMap_cons, List.length_append, ih]; simp; omega
    refine ⟨_, S', .inl ?_, L ++ [r], .val (rowP r), by simp, rfl, rfl⟩
    unfold B_longer
    rw [List.flatMap_append, List.map_append]
    simp only [ev_bind, ev_nox, ev_seq, ev_set, ev_setOwn, ev_share, ev_drop, ev_ret, ev_retOwn, ev_skip, ev_brk, ev_cnt, ev_ifS, ev_frzS, ev_append, ev_setIx, ev_for, ev_lc, ev_seqOf, ev_range, ev_var, ev_c, ev_op, ev_un, ev_args, ev_nil, ev_cons, ev_frz, ev_b, ev_and, ev_or, ev_not, ev_andV, ev_orV, ev_notV, ev_if, ev_chain, ev_isi, ev_ixOwn, ev_lenOwn, ev_call, ev_callK, ev_sl, ev_part, ev_true, ev_nm, ev_toB, frz, frzAt, toSeq_tup, toSeq_lst, toSeq_cl, toRet, mWipe, kbG, Mir.gTup, Mir.gLst, List.getElem?_cons_zero, List.getElem?_cons_succ, List.set_cons_zero, List.set_cons_succ, List.length_cons, List.length_nil, List.append_nil, List.nil_append, List.cons_append, Nat.reduceAdd, Nat.reduceLeDiff, Nat.reduceEqDiff, Nat.zero_add, reduceIte, Bool.false_eq_true, Bool.not_true, Bool.not_false, and_self, sizeM_eq, gAddA, gAdd, gMulA, gMul, Mir.gSub, gFdiv, gMod, gLt, gLe, gGt, gGe, gLen, gInt, gAbs, gNeg, rowP, List.length_map, show r.length + 1 ≤ 100000 by omega, el, show 2 * L.length + 2 ≤ 100000 by omega, List.flatMap_cons, List.flatMap_nil, List.map_cons, List.map_nil, List.map_append]) [p0, p1, s2, .val (.lst []), s4] S ⟨[], s4, rfl, rfl, rfl⟩
  have hL' : L = rs := by
    have inj : ∀ a b : List Int, rowP a = rowP b → a = b := fun a b h => by
      have h' : a.map PV.int = b.map PV.int := by
        unfold rowP at h; exact PV.tup.inj h
      exact List.map_inj_right (f := PV.int) (fun x y h => PV.int.inj h) |>.mp h'
    exact (List.map_inj_right (f := rowP) (fun x y h => inj x y h)).mp hL.symm
  subst hL'
  exact ⟨s, e⟩
theorem every_ok {n : Nat} (hn : n ≤ 15) (S : Store) : mDef 5 B_every [.int n] S = .ok (.lst ((rowsE n).map rowP)) S := by
  have pw : ∀ k : Nat, k ≤ 15 → 2 ^ k ≤ 32768 := fun k hk => by
    have : (2 : Nat) ^ k ≤ 2 ^ 15 := Nat.pow_le_pow_right (by decide) hk
    exact this
  obtain ⟨ρ', S', e, s2, s3, s4, rfl, rfl⟩ := for_inv (g := gNm 2) (b := B_everyT) (xs := (List.range n).map fun (k : Nat) => PV.int (k : Int)) (fun pre ρ S' => ∃ s2 s3 s4, S' = S ∧ ρ = [.val (.int n), .val (.lst ((rowsE pre.length).map rowP)), s2, s3, s4]) (by
    rintro pre x post ρ S' ex ⟨s2, s3, s4, rfl, rfl⟩
    have hlen : pre.length < n := by
      have := congrArg List.length ex
      simp at this; omega
    obtain ⟨s4', e⟩ := longer_ok (p0 := .val (.int n)) (p1 := .val (.lst ((rowsE pre.length).map rowP))) (s2 := .val x) (s4 := s4) (S := S') (rs := rowsE pre.length) (fun r hr => by have := (rowsE_mem hr).1; omega) (by rw [rowsE_len]; have := pw pre.length (by omega); omega)
    refine ⟨_, S', .inl ?_, .val x, .val (.lst ((rowsE (pre ++ [x]).length).map rowP)), s4', rfl, rfl⟩
    have el : (pre ++ [x]).length = pre.length + 1 := by simp
    rw [el]
    unfold B_everyT
    simp only [ev_bind, ev_nox, ev_seq, ev_set, ev_setOwn, ev_share, ev_drop, ev_ret, ev_retOwn, ev_skip, ev_brk, ev_cnt, ev_ifS, ev_frzS, ev_append, ev_setIx, ev_for, ev_lc, ev_seqOf, ev_range, ev_var, ev_c, ev_op, ev_un, ev_args, ev_nil, ev_cons, ev_frz, ev_b, ev_and, ev_or, ev_not, ev_andV, ev_orV, ev_notV, ev_if, ev_chain, ev_isi, ev_ixOwn, ev_lenOwn, ev_call, ev_callK, ev_sl, ev_part, ev_true, ev_nm, ev_toB, frz, frzAt, toSeq_tup, toSeq_lst, toSeq_cl, toRet, mWipe, kbG, Mir.gTup, Mir.gLst, List.getElem?_cons_zero, List.getElem?_cons_succ, List.set_cons_zero, List.set_cons_succ, List.length_cons, List.length_nil, List.append_nil, List.nil_append, List.cons_append, Nat.reduceAdd, Nat.reduceLeDiff, Nat.reduceEqDiff, Nat.zero_add, reduceIte, Bool.false_eq_true, Bool.not_true, Bool.not_false, and_self, sizeM_eq, gAddA, gAdd, gMulA, gMul, Mir.gSub, gFdiv, gMod, gLt, gLe, gGt, gGe, gLen, gInt, gAbs, gNeg, e]
    rfl) [.val (.int n), .val (.lst ([[]].map rowP)), .none, .none, .none] S ⟨_, _, _, rfl, rfl⟩
  show (B_every [.val (.int n), .none, .none, .none, .none] _).bind toRet = _
  have r62 : range62 (n : Int) = true := range62_ok (by omega) (by omega)
  unfold B_every
  simp only [ev_bind, ev_nox, ev_seq, ev_set, ev_setOwn, ev_share, ev_drop, ev_ret, ev_retOwn, ev_skip, ev_brk, ev_cnt, ev_ifS, ev_frzS, ev_append, ev_setIx, ev_for, ev_lc, ev_seqOf, ev_range, ev_var, ev_c, ev_op, ev_un, ev_args, ev_nil, ev_cons, ev_frz, ev_b, ev_and, ev_or, ev_not, ev_andV, ev_orV, ev_notV, ev_if, ev_chain, ev_isi, ev_ixOwn, ev_lenOwn, ev_call, ev_callK, ev_sl, ev_part, ev_true, ev_nm, ev_toB, frz, frzAt, toSeq_tup, toSeq_lst, toSeq_cl, toRet, mWipe, kbG, Mir.gTup, Mir.gLst, List.getElem?_cons_zero, List.getElem?_cons_succ, List.set_cons_zero, List.set_cons_succ, List.length_cons, List.length_nil, List.append_nil, List.nil_append, List.cons_append, Nat.reduceAdd, Nat.reduceLeDiff, Nat.reduceEqDiff, Nat.zero_add, reduceIte, Bool.false_eq_true, Bool.not_true, Bool.not_false, and_self, sizeM_eq, gRange1, r62, Int.toNat_natCast]
  rw [show ((.val (.lst [.tup []]) : Slot)) = .val (.lst ([[]].map rowP)) from rfl, e]
  simp only [ev_bind, ev_nox, ev_seq, ev_set, ev_setOwn, ev_share, ev_drop, ev_ret, ev_retOwn, ev_skip, ev_brk, ev_cnt, ev_ifS, ev_frzS, ev_append, ev_setIx, ev_for, ev_lc, ev_seqOf, ev_range, ev_var, ev_c, ev_op, ev_un, ev_args, ev_nil, ev_cons, ev_frz, ev_b, ev_and, ev_or, ev_not, ev_andV, ev_orV, ev_notV, ev_if, ev_chain, ev_isi, ev_ixOwn, ev_lenOwn, ev_call, ev_callK, ev_sl, ev_part, ev_true, ev_nm, ev_toB, frz, frzAt, toSeq_tup, toSeq_lst, toSeq_cl, toRet, mWipe, kbG, Mir.gTup, Mir.gLst, List.getElem?_cons_zero, List.getElem?_cons_succ, List.set_cons_zero, List.set_cons_succ, List.length_cons, List.length_nil, List.append_nil, List.nil_append, List.cons_append, Nat.reduceAdd, Nat.reduceLeDiff, Nat.reduceEqDiff, Nat.zero_add, reduceIte, Bool.false_eq_true, Bool.not_true, Bool.not_false, and_self, sizeM_eq, List.length_map, List.length_range]
/-! the number that a row tells -/
def numOf (r : List Int) : Int := r.foldl (fun n b => 2 * n + b) 0
def B_place : Rho → Store → Res Out :=
  (mSeq (mSet 1 (mC (.int 0)))
    (mSeq (mFor (mSeqOf (mVar 0)) (gNm 2)
    (mSet 1 (mOp gAddA (mOp gMulA (mC (.int 2)) (mVar 1)) (mVar 2))))
    (mRet (mVar 1))))
theorem place_ok {x : PV} {r : List Int} {S : Store} (hx : toSeq x S = .ok (r.map PV.int) S) : mDef 3 B_place [x] S = .ok (.int (numOf r)) S := by
  have s2 : small64 2 = true := by decide
  have key : ∀ (r : List Int) (n : Int) (s : Slot), ∃ s', mForGo (gNm 2) (mSet 1 (mOp gAddA (mOp gMulA (mC (.int 2)) (mVar 1)) (mVar 2))) (r.map PV.int) [.val x, .val (.int n), s] S = .ok (.nx [.val x, .val (.int (r.foldl (fun n b => 2 * n + b) n)), s']) S := by
    intro r
    induction r with
    | nil => intro n s; exact ⟨s, rfl⟩
    | cons b r ih =>
      intro n s
      obtain ⟨s', e⟩ := ih (2 * n + b) (.val (.int b))
      refine ⟨s', ?_⟩
      rw [List.map_cons, mForGo]
      simp only [ev_bind, ev_nox, ev_seq, ev_set, ev_setOwn, ev_share, ev_drop, ev_ret, ev_retOwn, ev_skip, ev_brk, ev_cnt, ev_ifS, ev_frzS, ev_append, ev_setIx, ev_for, ev_lc, ev_seqOf, ev_range, ev_var, ev_c, ev_op, ev_un, ev_args, ev_nil, ev_cons, ev_frz, ev_b, ev_and, ev_or, ev_not, ev_andV, ev_orV, ev_notV, ev_if, ev_chain, ev_isi, ev_ixOwn, ev_lenOwn, ev_call, ev_callK, ev_sl, ev_part, ev_true, ev_nm, ev_toB, frz, frzAt, toSeq_tup, toSeq_lst, toSeq_cl, toRet, mWipe, kbG, Mir.gTup, Mir.gLst, List.getElem?_cons_zero, List.getElem?_cons_succ, List.set_cons_zero, List.set_cons_succ, List.length_cons, List.length_nil, List.append_nil, List.nil_append, List.cons_append, Nat.reduceAdd, Nat.reduceLeDiff, Nat.reduceEqDiff, Nat.zero_add, reduceIte, Bool.false_eq_true, Bool.not_true, Bool.not_false, and_self, sizeM_eq, gAddA, gAdd, gMulA, gMul, Mir.gSub, gFdiv, gMod, gLt, gLe, gGt, gGe, gLen, gInt, gAbs, gNeg, s2, Bool.true_or, List.foldl_cons, e]
  obtain ⟨s', e⟩ := key r 0 .none
  show (B_place [.val x, .none, .none] _).bind toRet = _
  unfold B_place
  simp only [ev_bind, ev_nox, ev_seq, ev_set, ev_setOwn, ev_share, ev_drop, ev_ret, ev_retOwn, ev_skip, ev_brk, ev_cnt, ev_ifS, ev_frzS, ev_append, ev_setIx, ev_for, ev_lc, ev_seqOf, ev_range, ev_var, ev_c, ev_op, ev_un, ev_args, ev_nil, ev_cons, ev_frz, ev_b, ev_and, ev_or, ev_not, ev_andV, ev_orV, ev_notV, ev_if, ev_chain, ev_isi, ev_ixOwn, ev_lenOwn, ev_call, ev_callK, ev_sl, ev_part, ev_true, ev_nm, ev_toB, frz, frzAt, toSeq_tup, toSeq_lst, toSeq_cl, toRet, mWipe, kbG, Mir.gTup, Mir.gLst, List.getElem?_cons_zero, List.getElem?_cons_succ, List.set_cons_zero, List.set_cons_succ, List.length_cons, List.length_nil, List.append_nil, List.nil_append, List.cons_append, Nat.reduceAdd, Nat.reduceLeDiff, Nat.reduceEqDiff, Nat.zero_add, reduceIte, Bool.false_eq_true, Bool.not_true, Bool.not_false, and_self, sizeM_eq, hx, e]
  rfl
end Mir
set_option maxHeartbeats 4000000
/-! MirF: texts of small data. -/
namespace Mir
open PySem L2
/-- small data: a text of it is no longer than 32 w + 30 -/
def Sm (x : PV) (w k : Nat) : Prop := ∃ d, toD x = some d ∧ PyData.showable d = true ∧ d.leavesShort 30 = true ∧ d.weight ≤ w ∧ d.depth ≤ k
theorem Sm.mono {x : PV} {w k w' k' : Nat} (h : Sm x w k) (h1 : w ≤ w') (h2 : k ≤ k') : Sm x w' k' := by
  obtain ⟨d, a, b, c, e, f⟩ := h
  exact ⟨d, a, b, c, Nat.le_trans e h1, Nat.le_trans f h2⟩
theorem sm_non : Sm .non 0 0 := ⟨.none, rfl, rfl, rfl, Nat.le_refl _, Nat.le_refl _⟩
theorem sm_bl (b : Bool) : Sm (.bl b) 0 0 := ⟨.bool b, rfl, rfl, rfl, Nat.le_refl _, Nat.le_refl _⟩
theorem sm_bit {b : Int} (h : b = 0 ∨ b = 1) : Sm (.int b) 1 0 := by
  rcases h with rfl | rfl
  · exact ⟨.int 0, rfl, by decide +kernel, by decide +kernel, by decide +kernel, by decide +kernel⟩
  · exact ⟨.int 1, rfl, by decide +kernel, by decide +kernel, by decide +kernel, by decide +kernel⟩
/-- lists of data -/
def SmAll (xs : List PV) (ds : List PyData) (w k : Nat) : Prop := toDs xs = some ds ∧ PyData.showableAll ds = true ∧ PyData.leavesShortAll 30 ds = true ∧ PyData.weightAll ds ≤ (w + 1) * xs.length ∧ PyData.depthAll ds ≤ k
theorem smAll {w k : Nat} : ∀ {xs : List PV}, (∀ x ∈ xs, Sm x w k) → ∃ ds, SmAll xs ds w k
  | [], _ => ⟨[], rfl, rfl, rfl, by simp [PyData.weightAll], by simp [PyData.depthAll]⟩
  | x :: xs, h => by
    obtain ⟨d, a1, a2, a3, a4, a5⟩ := h x List.mem_cons_self
    obtain ⟨ds, b1, b2, b3, b4, b5⟩ := smAll (xs := xs) fun y hy => h y (List.mem_cons_of_mem _ hy)
    refine ⟨d :: ds, ?_, ?_, ?_, ?_, ?_⟩
    · simp only [toDs, a1, b1]
    · simp only [PyData.showableAll, a2, b2, Bool.and_self]
    · simp only [PyData.leavesShortAll, a3, b3, Bool.and_self]
    · simp only [PyData.weightAll, List.length_cons]
      rw [Nat.mul_add, Nat.mul_one]
      omega
    · simp only [PyData.depthAll]
      omega
theorem sm_tup {xs : List PV} {w k : Nat} (h : ∀ x ∈ xs, Sm x w k) : Sm (.tup xs) ((w + 1) * xs.length) (k + 1) := by
  obtain ⟨ds, b1, b2, b3, b4, b5⟩ := smAll h
  refine ⟨.tuple ds, by simp only [toD, b1, Option.map_some], by simpa only [PyData.showable] using b2, by simpa only [PyData.leavesShort] using b3, by simpa only [PyData.weight] using b4, by simp only [PyData.depth]; omega⟩
theorem sm_lst {xs : List PV} {w k : Nat} (h : ∀ x ∈ xs, Sm x w k) : Sm (.lst xs) ((w + 1) * xs.length) (k + 1) := by
  obtain ⟨ds, b1, b2, b3, b4, b5⟩ := smAll h
  refine ⟨.list ds, by simp only [toD, b1, Option.map_some], by simpa only [PyData.showable] using b2, by simpa only [PyData.leavesShort] using b3, by simpa only [PyData.weight] using b4, by simp only [PyData.depth]; omega⟩
theorem sm_row {r : List Int} (h : Bits r) : Sm (rowP r) (2 * r.length) 1 := by
  have := sm_tup (xs := r.map PV.int) (w := 1) (k := 0) fun x hx => by
    obtain ⟨b, hb, rfl⟩ := List.mem_map.mp hx
    exact sm_bit (h b hb)
  show Sm (.tup (r.map PV.int)) _ _
  simpa using this
theorem sm_repr {x : PV} {w k : Nat} (h : Sm x w k) (hw : w ≤ 3000) (hk : k ≤ 60) (S : Store) : ∃ s, gRepr [x] S = .ok (.str s) S := by
  obtain ⟨d, a, b, c, e, f⟩ := h
  refine ⟨d.shown, ?_⟩
  have hl := PyData.shown_le 30 (by omega) d c
  have hl2 : (30 + 2) * d.weight ≤ 32 * 3000 := Nat.mul_le_mul (Nat.le_refl _) (Nat.le_trans e hw)
  have ok : reprOk d = true := by
    unfold reprOk
    simp only [b, Bool.true_and, Bool.and_eq_true, decide_eq_true_eq]
    exact ⟨by rw [sizeM_eq]; omega, Nat.le_trans f hk⟩
  show (match toD x with | some d => (if reprOk d = true then Res.ok (PV.str d.shown) S else .bad) | none => .bad) = Res.ok (PV.str d.shown) S
  rw [a]
  simp only [ok, if_pos]
/-- a text is not unlike itself -/
theorem ne_self (s : Str) (S : Store) : gEq true (.str s) (.str s) S = .ok (.bl false) S := by
  unfold gEq
  simp only [toV, scal, if_pos, decide_true, Bool.not_true]
theorem eq_self (s : Str) (S : Store) : gEq false (.str s) (.str s) S = .ok (.bl true) S := by
  unfold gEq
  simp only [toV, scal, if_pos, decide_true, Bool.false_eq_true, if_false]
theorem ne_int (i j : Int) (S : Store) : gEq true (.int i) (.int j) S = .ok (.bl (!decide (i = j))) S := by
  unfold gEq
  simp only [toV, scal, if_pos, V.int.injEq]
theorem eq_int (i j : Int) (S : Store) : gEq false (.int i) (.int j) S = .ok (.bl (decide (i = j))) S := by
  unfold gEq
  simp only [toV, scal, if_pos, V.int.injEq, Bool.false_eq_true, if_false]
theorem ne_bl (i j : Bool) (S : Store) : gEq true (.bl i) (.bl j) S = .ok (.bl (!decide (i = j))) S := by
  unfold gEq
  simp only [toV, scal, if_pos, V.bl.injEq]
/-! what rows read at a place -/
def colN (rows : List (List Int)) (j : Nat) : List Int := rows.map fun r => r.getD j 0
/-- the row that a table makes -/
def madeN (tb : List Int) (rows : List (List Int)) (size : Nat) : List Int := (List.range size).map fun j => tb.getD (numOf (colN rows j)).toNat 0
theorem numOf_snoc (r : List Int) (b : Int) : numOf (r ++ [b]) = 2 * numOf r + b := by
  unfold numOf
  rw [List.foldl_append]
  rfl
theorem numOf_lt : ∀ (n : Nat) (r : List Int), r.length = n → Bits r → 0 ≤ numOf r ∧ numOf r < 2 ^ n
  | 0, r, h, _ => by
    have e : r = [] := List.length_eq_zero_iff.mp h
    subst e
    exact ⟨Int.le_refl _, by decide⟩
  | n + 1, r, h, hb => by
    have hne : r ≠ [] := fun e => by rw [e] at h; cases h
    have e := List.dropLast_concat_getLast hne
    have h1 : r.dropLast.length = n := by rw [List.length_dropLast, h]; rfl
    obtain ⟨i1, i2⟩ := numOf_lt n r.dropLast h1 fun b hb' => hb b ((List.dropLast_sublist r).subset hb')
    have hl := hb _ (List.getLast_mem hne)
    rw [← e, numOf_snoc]
    have p : (2 : Int) ^ (n + 1) = 2 ^ n * 2 := Int.pow_succ _ _
    rw [p]
    rcases hl with hl | hl <;> rw [hl] <;> omega
theorem rowsE_num : ∀ (n i : Nat) (r : List Int), (rowsE n)[i]? = some r → numOf r = i
  | 0, i, r, h => by
    have : i = 0 := by
      have := (List.getElem?_eq_some_iff.mp h).1
      simp [rowsE] at this; exact this
    subst this
    have e : r = [] := by simpa [rowsE] using h.symm
    subst e
    rfl
  | n + 1, i, r, h => by
    have key : ∀ (l : List (List Int)) (i : Nat) (r : List Int), (l.flatMap fun r => [r ++ [0], r ++ [1]])[i]? = some r → ∃ r', l[i / 2]? = some r' ∧ r = r' ++ [((i % 2 : Nat) : Int)] := by
      intro l
      induction l with
      | nil => intro i r h; simp at h
      | cons x l ih =>
        intro i r h
        rw [List.flatMap_cons] at h
        match i, h with
        | 0, h =>
          simp at h
          exact ⟨x, rfl, by simp [← h]⟩
        | 1, h =>
          simp at h
          exact ⟨x, rfl, by simp [← h]⟩
        | i + 2, h =>
          have h' : (l.flatMap fun r => [r ++ [0], r ++ [1]])[i]? = some r := by simpa using h
          obtain ⟨r', h1, h2⟩ := ih i r h'
          refine ⟨r', ?_, ?_⟩
          · rw [show (i + 2) / 2 = i / 2 + 1 by omega]
            simpa using h1
          · rw [show (i + 2) % 2 = i % 2 by omega]
            exact h2
    obtain ⟨r', h1, rfl⟩ := key (rowsE n) i r h
    rw [numOf_snoc, rowsE_num n (i / 2) r' h1]
    omega

/-! isinstance of what is no shared object -/
def NoObj (v : PV) : Prop := ∀ n, v ≠ .obj n
def isIntP : PV → Bool
  | .int _ => true
  | .bl _ => true
  | _ => false
def isBoolP : PV → Bool
  | .bl _ => true
  | _ => false
def isTupP : PV → Bool
  | .tup _ => true
  | _ => false
def isStrP : PV → Bool
  | .str _ => true
  | _ => false
def isLstP : PV → Bool
  | .lst _ => true
  | .cl _ => true
  | _ => false
theorem isi_of {T : String} {v : PV} {p : PV → Bool} (h : NoObj v) (S : Store) (h0 : kitB "NoneType" T = some (p .non)) (h1 : ∀ b, kitB "bool" T = some (p (.bl b))) (h2 : ∀ i, kitB "int" T = some (p (.int i))) (h3 : ∀ x, kitB "str" T = some (p (.str x))) (h4 : ∀ x, kitB "tuple" T = some (p (.tup x))) (h5 : ∀ x, kitB "list" T = some (p (.lst x))) (h6 : ∀ x, kitB "list" T = some (p (.cl x))) : gIsi T v S = .ok (.bl (p v)) S := by
  unfold gIsi
  cases v with
  | obj n => exact absurd rfl (h n)
  | non => simp only [tyP, h0]
  | bl b => simp only [tyP, h1 b]
  | int i => simp only [tyP, h2 i]
  | str x => simp only [tyP, h3 x]
  | tup x => simp only [tyP, h4 x]
  | lst x => simp only [tyP, h5 x]
  | cl x => simp only [tyP, h6 x]
theorem isi_int {v : PV} (h : NoObj v) (S : Store) : gIsi "int" v S = .ok (.bl (isIntP v)) S := isi_of h S (by decide +kernel) (fun _ => by show kitB "bool" "int" = some true; decide +kernel) (fun _ => by show kitB "int" "int" = some true; decide +kernel) (fun _ => by show kitB "str" "int" = some false; decide +kernel) (fun _ => by show kitB "tuple" "int" = some false; decide +kernel) (fun _ => by show kitB "list" "int" = some false; decide +kernel) (fun _ => by show kitB "list" "int" = some false; decide +kernel)
theorem isi_bool {v : PV} (h : NoObj v) (S : Store) : gIsi "bool" v S = .ok (.bl (isBoolP v)) S := isi_of h S (by decide +kernel) (fun _ => by show kitB "bool" "bool" = some true; decide +kernel) (fun _ => by show kitB "int" "bool" = some false; decide +kernel) (fun _ => by show kitB "str" "bool" = some false; decide +kernel) (fun _ => by show kitB "tuple" "bool" = some false; decide +kernel) (fun _ => by show kitB "list" "bool" = some false; decide +kernel) (fun _ => by show kitB "list" "bool" = some false; decide +kernel)
theorem isi_tuple {v : PV} (h : NoObj v) (S : Store) : gIsi "tuple" v S = .ok (.bl (isTupP v)) S := isi_of h S (by decide +kernel) (fun _ => by show kitB "bool" "tuple" = some false; decide +kernel) (fun _ => by show kitB "int" "tuple" = some false; decide +kernel) (fun _ => by show kitB "str" "tuple" = some false; decide +kernel) (fun _ => by show kitB "tuple" "tuple" = some true; decide +kernel) (fun _ => by show kitB "list" "tuple" = some false; decide +kernel) (fun _ => by show kitB "list" "tuple" = some false; decide +kernel)
theorem isi_str {v : PV} (h : NoObj v) (S : Store) : gIsi "str" v S = .ok (.bl (isStrP v)) S := isi_of h S (by decide +kernel) (fun _ => by show kitB "bool" "str" = some false; decide +kernel) (fun _ => by show kitB "int" "str" = some false; decide +kernel) (fun _ => by show kitB "str" "str" = some true; decide +kernel) (fun _ => by show kitB "tuple" "str" = some false; decide +kernel) (fun _ => by show kitB "list" "str" = some false; decide +kernel) (fun _ => by show kitB "list" "str" = some false; decide +kernel)
theorem isi_list {v : PV} (h : NoObj v) (S : Store) : gIsi "list" v S = .ok (.bl (isLstP v)) S := isi_of h S (by decide +kernel) (fun _ => by show kitB "bool" "list" = some false; decide +kernel) (fun _ => by show kitB "int" "list" = some false; decide +kernel) (fun _ => by show kitB "str" "list" = some false; decide +kernel) (fun _ => by show kitB "tuple" "list" = some false; decide +kernel) (fun _ => by show kitB "list" "list" = some true; decide +kernel) (fun _ => by show kitB "list" "list" = some true; decide +kernel)
theorem mapM_bl {α : Type} (p : α → Bool) : ∀ xs : List α, (xs.map fun x => PV.bl (p x)).mapM toBl = some (xs.map p)
  | [] => rfl
  | x :: xs => by
    rw [List.map_cons, List.mapM_cons, mapM_bl p xs]
    rfl
theorem mapM_int : ∀ xs : List Int, (xs.map PV.int).mapM toI = some xs
  | [] => rfl
  | x :: xs => by
    rw [List.map_cons, List.mapM_cons, mapM_int xs]
    rfl
theorem at0 {α : Type} {x : α} {xs : List α} : atI (x :: xs) 0 = some x := by
  obtain ⟨hi, e⟩ := atI_ok (xs := x :: xs) (i := 0) (by omega) (by simp)
  rw [e]
  rfl
theorem atI_row {r : List Int} {j : Nat} (h : j < r.length) : atI (r.map PV.int) (j : Int) = some (.int (r.getD j 0)) := by
  obtain ⟨hi, e⟩ := atI_ok (xs := r.map PV.int) (i := (j : Int)) (by omega) (by simpa using h)
  rw [e]
  simp [List.getD_eq_getElem?_getD, List.getElem?_eq_getElem h]
/-- an item of a list at a drawn place -/
theorem at_mem {α : Type} {xs : List α} {i : Int} (h : 0 ≤ i) (h2 : i < xs.length) : ∃ y, atI xs i = some y ∧ y ∈ xs := by
  obtain ⟨hi, e⟩ := atI_ok h h2
  exact ⟨_, e, List.getElem_mem hi⟩
theorem cutP_mem {xs : List PV} {i j : Option Int} {y : PV} (h : y ∈ cutP xs i j) : y ∈ xs := List.mem_of_mem_drop (List.mem_of_mem_take h)
theorem cutP_len (xs : List PV) (i j : Option Int) : (cutP xs i j).length ≤ xs.length := by
  unfold cutP
  rw [List.length_take, List.length_drop]
  omega
theorem ints_of {P : Int → Prop} : ∀ {ys : List PV}, (∀ y ∈ ys, ∃ b : Int, y = .int b ∧ P b) → ∃ tb : List Int, ys = tb.map PV.int ∧ ∀ b ∈ tb, P b
  | [], _ => ⟨[], rfl, fun b h => nomatch h⟩
  | y :: ys, h => by
    obtain ⟨b, rfl, hb⟩ := h y List.mem_cons_self
    obtain ⟨tb, rfl, ht⟩ := ints_of (ys := ys) fun z hz => h z (List.mem_cons_of_mem _ hz)
    refine ⟨b :: tb, rfl, fun c hc => ?_⟩
    rcases List.mem_cons.mp hc with rfl | hc
    · exact hb
    · exact ht c hc
/-- what stands in both lists at the same place -/
theorem ix_all {P : PV → Prop} {xs ys : List PV} (hl : ys.length = xs.length) (h : ∀ (i : Nat) x y, xs[i]? = some x → ys[i]? = some y → P y) : ∀ y ∈ ys, P y := fun y hy => by
  obtain ⟨n, hn, e⟩ := List.getElem_of_mem hy
  exact h n _ y (List.getElem?_eq_getElem (by omega)) (by rw [List.getElem?_eq_getElem hn, e])
end Mir
set_option maxHeartbeats 4000000
/-! MirM: equations of the later mirrors. -/
namespace Mir
open PySem L2
section
variable {α β : Type} {ρ : Rho} {S : Store} {f : Rho → Store → Res Out} {a b : Rho → Store → Res PV} {as : Rho → Store → Res (List PV)} {n : Rho → Store → Res SO} {i j : Nat}
theorem ev_bindExc {c : Str} {fs : List (Str × PV)} {k : α → Store → Res β} : (Res.exc c fs S : Res α).bind k = .exc c fs S := nrfl rfl
theorem ev_asg {g : PV → Rho → Store → Res Rho} : mAsg a g ρ S = (a ρ S).bind fun x S1 => (g x ρ S1).bind fun ρ' S2 => .ok (.nx ρ') S2 := nrfl rfl
theorem ev_unTup {k : Nat} {g : List PV → Rho → Store → Res Rho} {xs : List PV} : gUn k g (.tup xs) ρ S = if xs.length = k then g xs ρ S else .bad := nrfl rfl
theorem ev_unLst {k : Nat} {g : List PV → Rho → Store → Res Rho} {xs : List PV} : gUn k g (.lst xs) ρ S = if xs.length = k then g xs ρ S else .bad := nrfl rfl
theorem ev_tupM {k : Nat} {g : List PV → Rho → Store → Res Rho} {xs : List PV} : gTupM k g (.tup xs) ρ S = if xs.length = k then g xs ρ S else .bad := nrfl rfl
theorem ev_gsCons {h : PV → Rho → Store → Res Rho} {g : List PV → Rho → Store → Res Rho} {x : PV} {xs : List PV} : gsCons h g (x :: xs) ρ S = (h x ρ S).bind fun ρ' S' => g xs ρ' S' := nrfl rfl
theorem ev_gsNil : gsNil [] ρ S = .ok ρ S := nrfl rfl
theorem ev_raise {c : Str} {flds : List Str} : mRaise c flds as ρ S = (as ρ S).bind fun xs S1 => if xs.length = flds.length then .exc c (flds.zip xs) S1 else .bad := nrfl rfl
/-- what a try gives of what its body gives -/
def tryR (i k : Nat) (hs : List Hd) : Res Out → Res Out
  | .exc c fv S1 => mHds i k hs c fv S1
  | r => r
theorem ev_tryL {k : Nat} {hs : List Hd} : mTryL i k f hs ρ S = tryR i k hs (f ρ S) := by
  unfold mTryL tryR
  cases f ρ S <;> rfl
theorem ev_tryOk {k : Nat} {hs : List Hd} {o : Out} : tryR i k hs (.ok o S) = .ok o S := nrfl rfl
theorem ev_tryExc {k : Nat} {hs : List Hd} {c : Str} {fv : List (Str × PV)} : tryR i k hs (.exc c fv S) = mHds i k hs c fv S := nrfl rfl
theorem ev_kin {neg : Bool} {tbl : List (Str × PV)} : mKIn neg tbl a ρ S = (a ρ S).bind fun x S1 => match x with
  | .str z => .ok (.bl (if neg then !(tbl.lookup z).isSome else (tbl.lookup z).isSome)) S1
  | _ => .bad := nrfl rfl
theorem ev_kget {tbl : List (Str × PV)} : mKGet tbl a ρ S = (a ρ S).bind fun x S1 => match x with
  | .str z => (match tbl.lookup z with
    | some p => .ok p S1
    | none => .bad)
  | _ => .bad := nrfl rfl
theorem ev_index : mIndex a as ρ S = (a ρ S).bind fun x S1 => match x with
  | .lst xs => (as ρ S1).bind fun ys S2 => gIndex (.lst xs) ys S2
  | _ => .bad := nrfl rfl
end
theorem shaped_int (i : Int) : SeqAt.shaped (.int i) = true := rfl
theorem eqD_int (i j : Int) (S : Store) : gEqD false (.int i) (.int j) S = .ok (.bl (decide (i = j))) S := by
  rw [gEqD_else (by rintro ⟨_, _, h, _⟩; cases h)]
  unfold gEqDeep
  simp only [toD, shaped_int, Bool.and_self, if_pos, PyData.eqv, Bool.false_eq_true, if_false]
  congr 2
theorem neD_int (i j : Int) (S : Store) : gEqD true (.int i) (.int j) S = .ok (.bl (!decide (i = j))) S := by
  rw [gEqD_else (by rintro ⟨_, _, h, _⟩; cases h)]
  unfold gEqDeep
  simp only [toD, shaped_int, Bool.and_self, if_pos, PyData.eqv]
  congr 3
theorem eqD_str (a b : Str) (S : Store) : gEqD false (.str a) (.str b) S = .ok (.bl (decide (a = b))) S := rfl
theorem neD_str (a b : Str) (S : Store) : gEqD true (.str a) (.str b) S = .ok (.bl (!decide (a = b))) S := rfl
/-- rows are of a shape that can be asked -/
theorem toDs_ints : ∀ r : List Int, toDs (r.map PV.int) = some (r.map PyData.int)
  | [] => rfl
  | i :: r => by simp only [List.map_cons, toDs, toD, toDs_ints r]
theorem toD_row (r : List Int) : toD (rowP r) = some (.tuple (r.map PyData.int)) := by
  unfold rowP
  simp only [toD, toDs_ints, Option.map_some]
theorem lay_ints : ∀ r : List Int, PyData.canLayAll0 (r.map PyData.int) = true
  | [] => rfl
  | i :: r => by simp only [List.map_cons, PyData.canLayAll0, PyData.canLay0, lay_ints r, Bool.and_self]
theorem depth_ints : ∀ r : List Int, PyData.depthAll (r.map PyData.int) = 0
  | [] => by simp [PyData.depthAll]
  | i :: r => by simp only [List.map_cons, PyData.depthAll, PyData.depth, depth_ints r, Nat.max_self]
theorem shaped_row (r : List Int) : SeqAt.shaped (.tuple (r.map PyData.int)) = true := by
  unfold SeqAt.shaped
  simp only [PyData.canLay0, lay_ints, PyData.depth, depth_ints, Bool.true_and]
  rfl
theorem eqvAll_ints : ∀ r s : List Int, PyData.eqvAll (r.map PyData.int) (s.map PyData.int) = decide (r = s)
  | [], [] => rfl
  | [], _ :: _ => rfl
  | _ :: _, [] => rfl
  | i :: r, j :: s => by
    simp only [List.map_cons, PyData.eqvAll, PyData.eqv, eqvAll_ints r s]
    rw [Bool.eq_iff_iff]
    simp
theorem eqD_row (r s : List Int) (S : Store) : gEqD false (rowP r) (rowP s) S = .ok (.bl (decide (r = s))) S := by
  rw [gEqD_else (by rintro ⟨_, _, h, _⟩; cases h)]
  unfold gEqDeep
  simp only [toD_row, shaped_row, Bool.and_self, if_pos, PyData.eqv, eqvAll_ints, Bool.false_eq_true, if_false]
end Mir
set_option maxHeartbeats 4000000
namespace K07
open PySem L2 Mir
theorem d_draws : m__law_draws = mDef 8 B_draws := rfl
theorem d_take : m__law_take = mDef 4 B_take := rfl
theorem d_place : m__law_place = mDef 3 B_place := rfl
/-- data without shared objects -/
def Clean (v : PV) : Prop := (toD v).isSome = true
theorem Clean.no {v : PV} (h : Clean v) : NoObj v := fun n e => by subst e; simp [Clean, toD] at h
theorem toDs_mem : ∀ {xs : List PV}, (toDs xs).isSome = true → ∀ x ∈ xs, Clean x
  | [], _, x, h => nomatch h
  | y :: ys, h, x, hx => by
    simp only [toDs] at h
    cases h1 : toD y with
    | none => rw [h1] at h; cases h
    | some d =>
      cases h2 : toDs ys with
      | none => rw [h1, h2] at h; cases h
      | some ds =>
        rcases List.mem_cons.mp hx with rfl | hx
        · unfold Clean; rw [h1]; rfl
        · exact toDs_mem (by rw [h2]; rfl) x hx
theorem Clean.tup {xs : List PV} (h : Clean (.tup xs)) : ∀ x ∈ xs, Clean x := by
  unfold Clean at h
  simp only [toD, Option.isSome_map] at h
  exact toDs_mem h
theorem toDs_some : ∀ {xs : List PV}, (∀ x ∈ xs, Clean x) → (toDs xs).isSome = true
  | [], _ => rfl
  | y :: ys, h => by
    have h1 := h y List.mem_cons_self
    have h2 := toDs_some fun x hx => h x (List.mem_cons_of_mem y hx)
    simp only [toDs]
    unfold Clean at h1
    cases e1 : toD y with
    | none => rw [e1] at h1; cases h1
    | some d =>
      cases e2 : toDs ys with
      | none => rw [e2] at h2; cases h2
      | some ds => rfl
theorem clean_tup {xs : List PV} (h : ∀ x ∈ xs, Clean x) : Clean (.tup xs) := by
  unfold Clean
  simp only [toD, Option.isSome_map]
  exact toDs_some h
theorem clean_lst {xs : List PV} (h : ∀ x ∈ xs, Clean x) : Clean (.lst xs) := by
  unfold Clean
  simp only [toD, Option.isSome_map]
  exact toDs_some h
/-- a term at most n deep -/
def isT : Nat → PV → Bool
  | _, .int i => decide (0 ≤ i) && decide (i ≤ 2)
  | n + 1, .tup [a, b, c] => isT n a && (isT n b && isT n c)
  | _, _ => false
theorem isterm_ok : ∀ (n f : Nat) (v : PV), n < f → Clean v → ∀ S, m__is_term f [v, .int n] S = .ok (.bl (isT n v)) S
  | n, 0, _, h, _, _ => absurd h (Nat.not_lt_zero n)
  | n, f + 1, v, hf, hv, S => by
    show (b__is_term (m__is_term f) [.val v, .val (.int n)] S).bind toRet = _
    unfold b__is_term
    simp only [ev_bind, ev_nox, ev_seq, ev_set, ev_setOwn, ev_share, ev_drop, ev_ret, ev_retOwn, ev_skip, ev_brk, ev_cnt, ev_ifS, ev_frzS, ev_append, ev_setIx, ev_for, ev_lc, ev_seqOf, ev_range, ev_var, ev_c, ev_op, ev_un, ev_args, ev_nil, ev_cons, ev_frz, ev_b, ev_and, ev_or, ev_not, ev_andV, ev_orV, ev_notV, ev_if, ev_chain, ev_isi, ev_ixOwn, ev_lenOwn, ev_call, ev_callK, ev_sl, ev_part, ev_true, ev_nm, ev_toB, frz, frzAt, toSeq_tup, toSeq_lst, toSeq_cl, toRet, mWipe, kbG, Mir.gTup, Mir.gLst, List.getElem?_cons_zero, List.getElem?_cons_succ, List.set_cons_zero, List.set_cons_succ, List.length_cons, List.length_nil, List.append_nil, List.nil_append, List.cons_append, Nat.reduceAdd, Nat.reduceLeDiff, Nat.reduceEqDiff, Nat.zero_add, reduceIte, Bool.false_eq_true, Bool.not_true, Bool.not_false, and_self, sizeM_eq, isi_int hv.no, isi_tuple hv.no, isi_bool hv.no]
    cases v with
    | int i =>
      simp only [isIntP, isBoolP, ev_bind, ev_nox, ev_seq, ev_set, ev_setOwn, ev_share, ev_drop, ev_ret, ev_retOwn, ev_skip, ev_brk, ev_cnt, ev_ifS, ev_frzS, ev_append, ev_setIx, ev_for, ev_lc, ev_seqOf, ev_range, ev_var, ev_c, ev_op, ev_un, ev_args, ev_nil, ev_cons, ev_frz, ev_b, ev_and, ev_or, ev_not, ev_andV, ev_orV, ev_notV, ev_if, ev_chain, ev_isi, ev_ixOwn, ev_lenOwn, ev_call, ev_callK, ev_sl, ev_part, ev_true, ev_nm, ev_toB, frz, frzAt, toSeq_tup, toSeq_lst, toSeq_cl, toRet, mWipe, kbG, Mir.gTup, Mir.gLst, List.getElem?_cons_zero, List.getElem?_cons_succ, List.set_cons_zero, List.set_cons_succ, List.length_cons, List.length_nil, List.append_nil, List.nil_append, List.cons_append, Nat.reduceAdd, Nat.reduceLeDiff, Nat.reduceEqDiff, Nat.zero_add, reduceIte, Bool.false_eq_true, Bool.not_true, Bool.not_false, and_self, sizeM_eq, gAddA, gAdd, gMulA, gMul, Mir.gSub, gFdiv, gMod, gLt, gLe, gGt, gGe, gLen, gInt, gAbs, gNeg]
      by_cases h0 : (0 : Int) ≤ i
      · simp only [h0, decide_true, ev_bind, ev_nox, ev_seq, ev_set, ev_setOwn, ev_share, ev_drop, ev_ret, ev_retOwn, ev_skip, ev_brk, ev_cnt, ev_ifS, ev_frzS, ev_append, ev_setIx, ev_for, ev_lc, ev_seqOf, ev_range, ev_var, ev_c, ev_op, ev_un, ev_args, ev_nil, ev_cons, ev_frz, ev_b, ev_and, ev_or, ev_not, ev_andV, ev_orV, ev_notV, ev_if, ev_chain, ev_isi, ev_ixOwn, ev_lenOwn, ev_call, ev_callK, ev_sl, ev_part, ev_true, ev_nm, ev_toB, frz, frzAt, toSeq_tup, toSeq_lst, toSeq_cl, toRet, mWipe, kbG, Mir.gTup, Mir.gLst, List.getElem?_cons_zero, List.getElem?_cons_succ, List.set_cons_zero, List.set_cons_succ, List.length_cons, List.length_nil, List.append_nil, List.nil_append, List.cons_append, Nat.reduceAdd, Nat.reduceLeDiff, Nat.reduceEqDiff, Nat.zero_add, reduceIte, Bool.false_eq_true, Bool.not_true, Bool.not_false, and_self, sizeM_eq, isT, Bool.true_and]
      · simp only [h0, decide_false, ev_bind, ev_nox, ev_seq, ev_set, ev_setOwn, ev_share, ev_drop, ev_ret, ev_retOwn, ev_skip, ev_brk, ev_cnt, ev_ifS, ev_frzS, ev_append, ev_setIx, ev_for, ev_lc, ev_seqOf, ev_range, ev_var, ev_c, ev_op, ev_un, ev_args, ev_nil, ev_cons, ev_frz, ev_b, ev_and, ev_or, ev_not, ev_andV, ev_orV, ev_notV, ev_if, ev_chain, ev_isi, ev_ixOwn, ev_lenOwn, ev_call, ev_callK, ev_sl, ev_part, ev_true, ev_nm, ev_toB, frz, frzAt, toSeq_tup, toSeq_lst, toSeq_cl, toRet, mWipe, kbG, Mir.gTup, Mir.gLst, List.getElem?_cons_zero, List.getElem?_cons_succ, List.set_cons_zero, List.set_cons_succ, List.length_cons, List.length_nil, List.append_nil, List.nil_append, List.cons_append, Nat.reduceAdd, Nat.reduceLeDiff, Nat.reduceEqDiff, Nat.zero_add, reduceIte, Bool.false_eq_true, Bool.not_true, Bool.not_false, and_self, sizeM_eq, isT, Bool.false_and]
    | bl b => simp only [isIntP, isBoolP, ev_bind, ev_nox, ev_seq, ev_set, ev_setOwn, ev_share, ev_drop, ev_ret, ev_retOwn, ev_skip, ev_brk, ev_cnt, ev_ifS, ev_frzS, ev_append, ev_setIx, ev_for, ev_lc, ev_seqOf, ev_range, ev_var, ev_c, ev_op, ev_un, ev_args, ev_nil, ev_cons, ev_frz, ev_b, ev_and, ev_or, ev_not, ev_andV, ev_orV, ev_notV, ev_if, ev_chain, ev_isi, ev_ixOwn, ev_lenOwn, ev_call, ev_callK, ev_sl, ev_part, ev_true, ev_nm, ev_toB, frz, frzAt, toSeq_tup, toSeq_lst, toSeq_cl, toRet, mWipe, kbG, Mir.gTup, Mir.gLst, List.getElem?_cons_zero, List.getElem?_cons_succ, List.set_cons_zero, List.set_cons_succ, List.length_cons, List.length_nil, List.append_nil, List.nil_append, List.cons_append, Nat.reduceAdd, Nat.reduceLeDiff, Nat.reduceEqDiff, Nat.zero_add, reduceIte, Bool.false_eq_true, Bool.not_true, Bool.not_false, and_self, sizeM_eq]; cases n <;> rfl
    | non => simp only [isIntP, isTupP, ev_bind, ev_nox, ev_seq, ev_set, ev_setOwn, ev_share, ev_drop, ev_ret, ev_retOwn, ev_skip, ev_brk, ev_cnt, ev_ifS, ev_frzS, ev_append, ev_setIx, ev_for, ev_lc, ev_seqOf, ev_range, ev_var, ev_c, ev_op, ev_un, ev_args, ev_nil, ev_cons, ev_frz, ev_b, ev_and, ev_or, ev_not, ev_andV, ev_orV, ev_notV, ev_if, ev_chain, ev_isi, ev_ixOwn, ev_lenOwn, ev_call, ev_callK, ev_sl, ev_part, ev_true, ev_nm, ev_toB, frz, frzAt, toSeq_tup, toSeq_lst, toSeq_cl, toRet, mWipe, kbG, Mir.gTup, Mir.gLst, List.getElem?_cons_zero, List.getElem?_cons_succ, List.set_cons_zero, List.set_cons_succ, List.length_cons, List.length_nil, List.append_nil, List.nil_append, List.cons_append, Nat.reduceAdd, Nat.reduceLeDiff, Nat.reduceEqDiff, Nat.zero_add, reduceIte, Bool.false_eq_true, Bool.not_true, Bool.not_false, and_self, sizeM_eq]; cases n <;> rfl
    | str x => simp only [isIntP, isTupP, ev_bind, ev_nox, ev_seq, ev_set, ev_setOwn, ev_share, ev_drop, ev_ret, ev_retOwn, ev_skip, ev_brk, ev_cnt, ev_ifS, ev_frzS, ev_append, ev_setIx, ev_for, ev_lc, ev_seqOf, ev_range, ev_var, ev_c, ev_op, ev_un, ev_args, ev_nil, ev_cons, ev_frz, ev_b, ev_and, ev_or, ev_not, ev_andV, ev_orV, ev_notV, ev_if, ev_chain, ev_isi, ev_ixOwn, ev_lenOwn, ev_call, ev_callK, ev_sl, ev_part, ev_true, ev_nm, ev_toB, frz, frzAt, toSeq_tup, toSeq_lst, toSeq_cl, toRet, mWipe, kbG, Mir.gTup, Mir.gLst, List.getElem?_cons_zero, List.getElem?_cons_succ, List.set_cons_zero, List.set_cons_succ, List.length_cons, List.length_nil, List.append_nil, List.nil_append, List.cons_append, Nat.reduceAdd, Nat.reduceLeDiff, Nat.reduceEqDiff, Nat.zero_add, reduceIte, Bool.false_eq_true, Bool.not_true, Bool.not_false, and_self, sizeM_eq]; cases n <;> rfl
    | lst x => simp only [isIntP, isTupP, ev_bind, ev_nox, ev_seq, ev_set, ev_setOwn, ev_share, ev_drop, ev_ret, ev_retOwn, ev_skip, ev_brk, ev_cnt, ev_ifS, ev_frzS, ev_append, ev_setIx, ev_for, ev_lc, ev_seqOf, ev_range, ev_var, ev_c, ev_op, ev_un, ev_args, ev_nil, ev_cons, ev_frz, ev_b, ev_and, ev_or, ev_not, ev_andV, ev_orV, ev_notV, ev_if, ev_chain, ev_isi, ev_ixOwn, ev_lenOwn, ev_call, ev_callK, ev_sl, ev_part, ev_true, ev_nm, ev_toB, frz, frzAt, toSeq_tup, toSeq_lst, toSeq_cl, toRet, mWipe, kbG, Mir.gTup, Mir.gLst, List.getElem?_cons_zero, List.getElem?_cons_succ, List.set_cons_zero, List.set_cons_succ, List.length_cons, List.length_nil, List.append_nil, List.nil_append, List.cons_append, Nat.reduceAdd, Nat.reduceLeDiff, Nat.reduceEqDiff, Nat.zero_add, reduceIte, Bool.false_eq_true, Bool.not_true, Bool.not_false, and_self, sizeM_eq]; cases n <;> rfl
    | cl x => simp only [isIntP, isTupP, ev_bind, ev_nox, ev_seq, ev_set, ev_setOwn, ev_share, ev_drop, ev_ret, ev_retOwn, ev_skip, ev_brk, ev_cnt, ev_ifS, ev_frzS, ev_append, ev_setIx, ev_for, ev_lc, ev_seqOf, ev_range, ev_var, ev_c, ev_op, ev_un, ev_args, ev_nil, ev_cons, ev_frz, ev_b, ev_and, ev_or, ev_not, ev_andV, ev_orV, ev_notV, ev_if, ev_chain, ev_isi, ev_ixOwn, ev_lenOwn, ev_call, ev_callK, ev_sl, ev_part, ev_true, ev_nm, ev_toB, frz, frzAt, toSeq_tup, toSeq_lst, toSeq_cl, toRet, mWipe, kbG, Mir.gTup, Mir.gLst, List.getElem?_cons_zero, List.getElem?_cons_succ, List.set_cons_zero, List.set_cons_succ, List.length_cons, List.length_nil, List.append_nil, List.nil_append, List.cons_append, Nat.reduceAdd, Nat.reduceLeDiff, Nat.reduceEqDiff, Nat.zero_add, reduceIte, Bool.false_eq_true, Bool.not_true, Bool.not_false, and_self, sizeM_eq]; cases n <;> rfl
    | obj k => exact absurd rfl (hv.no k)
    | tup xs =>
      simp only [isIntP, isTupP, ev_bind, ev_nox, ev_seq, ev_set, ev_setOwn, ev_share, ev_drop, ev_ret, ev_retOwn, ev_skip, ev_brk, ev_cnt, ev_ifS, ev_frzS, ev_append, ev_setIx, ev_for, ev_lc, ev_seqOf, ev_range, ev_var, ev_c, ev_op, ev_un, ev_args, ev_nil, ev_cons, ev_frz, ev_b, ev_and, ev_or, ev_not, ev_andV, ev_orV, ev_notV, ev_if, ev_chain, ev_isi, ev_ixOwn, ev_lenOwn, ev_call, ev_callK, ev_sl, ev_part, ev_true, ev_nm, ev_toB, frz, frzAt, toSeq_tup, toSeq_lst, toSeq_cl, toRet, mWipe, kbG, Mir.gTup, Mir.gLst, List.getElem?_cons_zero, List.getElem?_cons_succ, List.set_cons_zero, List.set_cons_succ, List.length_cons, List.length_nil, List.append_nil, List.nil_append, List.cons_append, Nat.reduceAdd, Nat.reduceLeDiff, Nat.reduceEqDiff, Nat.zero_add, reduceIte, Bool.false_eq_true, Bool.not_true, Bool.not_false, and_self, sizeM_eq, gAddA, gAdd, gMulA, gMul, Mir.gSub, gFdiv, gMod, gLt, gLe, gGt, gGe, gLen, gInt, gAbs, gNeg, neD_int, eqD_int]
      by_cases h3 : xs.length = 3
      · have q3 : decide ((xs.length : Int) = 3) = true := decide_eq_true (by omega)
        simp only [q3, ev_bind, ev_nox, ev_seq, ev_set, ev_setOwn, ev_share, ev_drop, ev_ret, ev_retOwn, ev_skip, ev_brk, ev_cnt, ev_ifS, ev_frzS, ev_append, ev_setIx, ev_for, ev_lc, ev_seqOf, ev_range, ev_var, ev_c, ev_op, ev_un, ev_args, ev_nil, ev_cons, ev_frz, ev_b, ev_and, ev_or, ev_not, ev_andV, ev_orV, ev_notV, ev_if, ev_chain, ev_isi, ev_ixOwn, ev_lenOwn, ev_call, ev_callK, ev_sl, ev_part, ev_true, ev_nm, ev_toB, frz, frzAt, toSeq_tup, toSeq_lst, toSeq_cl, toRet, mWipe, kbG, Mir.gTup, Mir.gLst, List.getElem?_cons_zero, List.getElem?_cons_succ, List.set_cons_zero, List.set_cons_succ, List.length_cons, List.length_nil, List.append_nil, List.nil_append, List.cons_append, Nat.reduceAdd, Nat.reduceLeDiff, Nat.reduceEqDiff, Nat.zero_add, reduceIte, Bool.false_eq_true, Bool.not_true, Bool.not_false, and_self, sizeM_eq]
        match xs, h3, hv with
        | [a, b, c], _, hv =>
          cases n with
          | zero => simp only [show decide (((0 : Nat) : Int) = 0) = true from rfl, ev_bind, ev_nox, ev_seq, ev_set, ev_setOwn, ev_share, ev_drop, ev_ret, ev_retOwn, ev_skip, ev_brk, ev_cnt, ev_ifS, ev_frzS, ev_append, ev_setIx, ev_for, ev_lc, ev_seqOf, ev_range, ev_var, ev_c, ev_op, ev_un, ev_args, ev_nil, ev_cons, ev_frz, ev_b, ev_and, ev_or, ev_not, ev_andV, ev_orV, ev_notV, ev_if, ev_chain, ev_isi, ev_ixOwn, ev_lenOwn, ev_call, ev_callK, ev_sl, ev_part, ev_true, ev_nm, ev_toB, frz, frzAt, toSeq_tup, toSeq_lst, toSeq_cl, toRet, mWipe, kbG, Mir.gTup, Mir.gLst, List.getElem?_cons_zero, List.getElem?_cons_succ, List.set_cons_zero, List.set_cons_succ, List.length_cons, List.length_nil, List.append_nil, List.nil_append, List.cons_append, Nat.reduceAdd, Nat.reduceLeDiff, Nat.reduceEqDiff, Nat.zero_add, reduceIte, Bool.false_eq_true, Bool.not_true, Bool.not_false, and_self, sizeM_eq, isi_tuple hv.no, isTupP]; rfl
          | succ n =>
            have q0 : decide (((n + 1 : Nat) : Int) = 0) = false := decide_eq_false (by omega)
            have qs : ((n + 1 : Nat) : Int) - 1 = n := by omega
            have cl := hv.tup
            have ha := isterm_ok n f a (by omega) (cl a (by simp)) S
            have hb := isterm_ok n f b (by omega) (cl b (by simp)) S
            have hc := isterm_ok n f c (by omega) (cl c (by simp)) S
            have i0 : atI [a, b, c] 0 = some a := rfl
            have i1 : atI [a, b, c] 1 = some b := rfl
            have i2 : atI [a, b, c] 2 = some c := rfl
            simp only [q0, ev_bind, ev_nox, ev_seq, ev_set, ev_setOwn, ev_share, ev_drop, ev_ret, ev_retOwn, ev_skip, ev_brk, ev_cnt, ev_ifS, ev_frzS, ev_append, ev_setIx, ev_for, ev_lc, ev_seqOf, ev_range, ev_var, ev_c, ev_op, ev_un, ev_args, ev_nil, ev_cons, ev_frz, ev_b, ev_and, ev_or, ev_not, ev_andV, ev_orV, ev_notV, ev_if, ev_chain, ev_isi, ev_ixOwn, ev_lenOwn, ev_call, ev_callK, ev_sl, ev_part, ev_true, ev_nm, ev_toB, frz, frzAt, toSeq_tup, toSeq_lst, toSeq_cl, toRet, mWipe, kbG, Mir.gTup, Mir.gLst, List.getElem?_cons_zero, List.getElem?_cons_succ, List.set_cons_zero, List.set_cons_succ, List.length_cons, List.length_nil, List.append_nil, List.nil_append, List.cons_append, Nat.reduceAdd, Nat.reduceLeDiff, Nat.reduceEqDiff, Nat.zero_add, reduceIte, Bool.false_eq_true, Bool.not_true, Bool.not_false, and_self, sizeM_eq, gAddA, gAdd, gMulA, gMul, Mir.gSub, gFdiv, gMod, gLt, gLe, gGt, gGe, gLen, gInt, gAbs, gNeg, isi_tuple hv.no, isTupP, gIx, i0, i1, i2, qs, ha]
            cases ea : isT n a with
            | false => simp only [ev_bind, ev_nox, ev_seq, ev_set, ev_setOwn, ev_share, ev_drop, ev_ret, ev_retOwn, ev_skip, ev_brk, ev_cnt, ev_ifS, ev_frzS, ev_append, ev_setIx, ev_for, ev_lc, ev_seqOf, ev_range, ev_var, ev_c, ev_op, ev_un, ev_args, ev_nil, ev_cons, ev_frz, ev_b, ev_and, ev_or, ev_not, ev_andV, ev_orV, ev_notV, ev_if, ev_chain, ev_isi, ev_ixOwn, ev_lenOwn, ev_call, ev_callK, ev_sl, ev_part, ev_true, ev_nm, ev_toB, frz, frzAt, toSeq_tup, toSeq_lst, toSeq_cl, toRet, mWipe, kbG, Mir.gTup, Mir.gLst, List.getElem?_cons_zero, List.getElem?_cons_succ, List.set_cons_zero, List.set_cons_succ, List.length_cons, List.length_nil, List.append_nil, List.nil_append, List.cons_append, Nat.reduceAdd, Nat.reduceLeDiff, Nat.reduceEqDiff, Nat.zero_add, reduceIte, Bool.false_eq_true, Bool.not_true, Bool.not_false, and_self, sizeM_eq, isT, ea, Bool.false_and]
            | true =>
              simp only [ev_bind, ev_nox, ev_seq, ev_set, ev_setOwn, ev_share, ev_drop, ev_ret, ev_retOwn, ev_skip, ev_brk, ev_cnt, ev_ifS, ev_frzS, ev_append, ev_setIx, ev_for, ev_lc, ev_seqOf, ev_range, ev_var, ev_c, ev_op, ev_un, ev_args, ev_nil, ev_cons, ev_frz, ev_b, ev_and, ev_or, ev_not, ev_andV, ev_orV, ev_notV, ev_if, ev_chain, ev_isi, ev_ixOwn, ev_lenOwn, ev_call, ev_callK, ev_sl, ev_part, ev_true, ev_nm, ev_toB, frz, frzAt, toSeq_tup, toSeq_lst, toSeq_cl, toRet, mWipe, kbG, Mir.gTup, Mir.gLst, List.getElem?_cons_zero, List.getElem?_cons_succ, List.set_cons_zero, List.set_cons_succ, List.length_cons, List.length_nil, List.append_nil, List.nil_append, List.cons_append, Nat.reduceAdd, Nat.reduceLeDiff, Nat.reduceEqDiff, Nat.zero_add, reduceIte, Bool.false_eq_true, Bool.not_true, Bool.not_false, and_self, sizeM_eq, hb]
              cases eb : isT n b with
              | false => simp only [ev_bind, ev_nox, ev_seq, ev_set, ev_setOwn, ev_share, ev_drop, ev_ret, ev_retOwn, ev_skip, ev_brk, ev_cnt, ev_ifS, ev_frzS, ev_append, ev_setIx, ev_for, ev_lc, ev_seqOf, ev_range, ev_var, ev_c, ev_op, ev_un, ev_args, ev_nil, ev_cons, ev_frz, ev_b, ev_and, ev_or, ev_not, ev_andV, ev_orV, ev_notV, ev_if, ev_chain, ev_isi, ev_ixOwn, ev_lenOwn, ev_call, ev_callK, ev_sl, ev_part, ev_true, ev_nm, ev_toB, frz, frzAt, toSeq_tup, toSeq_lst, toSeq_cl, toRet, mWipe, kbG, Mir.gTup, Mir.gLst, List.getElem?_cons_zero, List.getElem?_cons_succ, List.set_cons_zero, List.set_cons_succ, List.length_cons, List.length_nil, List.append_nil, List.nil_append, List.cons_append, Nat.reduceAdd, Nat.reduceLeDiff, Nat.reduceEqDiff, Nat.zero_add, reduceIte, Bool.false_eq_true, Bool.not_true, Bool.not_false, and_self, sizeM_eq, isT, ea, eb, Bool.false_and, Bool.and_false]
              | true => simp only [ev_bind, ev_nox, ev_seq, ev_set, ev_setOwn, ev_share, ev_drop, ev_ret, ev_retOwn, ev_skip, ev_brk, ev_cnt, ev_ifS, ev_frzS, ev_append, ev_setIx, ev_for, ev_lc, ev_seqOf, ev_range, ev_var, ev_c, ev_op, ev_un, ev_args, ev_nil, ev_cons, ev_frz, ev_b, ev_and, ev_or, ev_not, ev_andV, ev_orV, ev_notV, ev_if, ev_chain, ev_isi, ev_ixOwn, ev_lenOwn, ev_call, ev_callK, ev_sl, ev_part, ev_true, ev_nm, ev_toB, frz, frzAt, toSeq_tup, toSeq_lst, toSeq_cl, toRet, mWipe, kbG, Mir.gTup, Mir.gLst, List.getElem?_cons_zero, List.getElem?_cons_succ, List.set_cons_zero, List.set_cons_succ, List.length_cons, List.length_nil, List.append_nil, List.nil_append, List.cons_append, Nat.reduceAdd, Nat.reduceLeDiff, Nat.reduceEqDiff, Nat.zero_add, reduceIte, Bool.false_eq_true, Bool.not_true, Bool.not_false, and_self, sizeM_eq, hc, isT, ea, eb, Bool.true_and]
      · have q3 : decide ((xs.length : Int) = 3) = false := decide_eq_false (by omega)
        simp only [q3, ev_bind, ev_nox, ev_seq, ev_set, ev_setOwn, ev_share, ev_drop, ev_ret, ev_retOwn, ev_skip, ev_brk, ev_cnt, ev_ifS, ev_frzS, ev_append, ev_setIx, ev_for, ev_lc, ev_seqOf, ev_range, ev_var, ev_c, ev_op, ev_un, ev_args, ev_nil, ev_cons, ev_frz, ev_b, ev_and, ev_or, ev_not, ev_andV, ev_orV, ev_notV, ev_if, ev_chain, ev_isi, ev_ixOwn, ev_lenOwn, ev_call, ev_callK, ev_sl, ev_part, ev_true, ev_nm, ev_toB, frz, frzAt, toSeq_tup, toSeq_lst, toSeq_cl, toRet, mWipe, kbG, Mir.gTup, Mir.gLst, List.getElem?_cons_zero, List.getElem?_cons_succ, List.set_cons_zero, List.set_cons_succ, List.length_cons, List.length_nil, List.append_nil, List.nil_append, List.cons_append, Nat.reduceAdd, Nat.reduceLeDiff, Nat.reduceEqDiff, Nat.zero_add, reduceIte, Bool.false_eq_true, Bool.not_true, Bool.not_false, and_self, sizeM_eq]
        match xs, h3 with
        | [], _ => cases n <;> rfl
        | [_], _ => cases n <;> rfl
        | [_, _], _ => cases n <;> rfl
        | [_, _, _], h => exact absurd rfl h
        | _ :: _ :: _ :: _ :: _, _ => cases n <;> rfl
theorem in012 (i : Int) (S : Store) : gInD false (.int i) (.lst [.int 0, .int 1, .int 2]) S = .ok (.bl (decide (0 ≤ i) && decide (i ≤ 2))) S := by
  unfold gInD
  simp only [toD, toDs, Option.map_some, shaped_int, show SeqAt.shaped (.list [.int 0, .int 1, .int 2]) = true from by decide, Bool.and_self, if_pos, List.any_cons, List.any_nil, PyData.eqv, Bool.or_false, Bool.false_eq_true, if_false]
  congr 2
  rw [Bool.eq_iff_iff]
  simp only [Bool.or_eq_true, beq_iff_eq, Bool.and_eq_true, decide_eq_true_eq]
  omega
theorem lawisterm_ok : ∀ (n f : Nat) (v : PV), n < f → Clean v → ∀ S, m__law_is_term f [v, .int n] S = .ok (.bl (isT n v)) S
  | n, 0, _, h, _, _ => absurd h (Nat.not_lt_zero n)
  | n, f + 1, v, hf, hv, S => by
    show (b__law_is_term (m__law_is_term f) [.val v, .val (.int n), .none] S).bind toRet = _
    unfold b__law_is_term
    simp only [ev_bind, ev_nox, ev_seq, ev_set, ev_setOwn, ev_share, ev_drop, ev_ret, ev_retOwn, ev_skip, ev_brk, ev_cnt, ev_ifS, ev_frzS, ev_append, ev_setIx, ev_for, ev_lc, ev_seqOf, ev_range, ev_var, ev_c, ev_op, ev_un, ev_args, ev_nil, ev_cons, ev_frz, ev_b, ev_and, ev_or, ev_not, ev_andV, ev_orV, ev_notV, ev_if, ev_chain, ev_isi, ev_ixOwn, ev_lenOwn, ev_call, ev_callK, ev_sl, ev_part, ev_true, ev_nm, ev_toB, frz, frzAt, toSeq_tup, toSeq_lst, toSeq_cl, toRet, mWipe, kbG, Mir.gTup, Mir.gLst, List.getElem?_cons_zero, List.getElem?_cons_succ, List.set_cons_zero, List.set_cons_succ, List.length_cons, List.length_nil, List.append_nil, List.nil_append, List.cons_append, Nat.reduceAdd, Nat.reduceLeDiff, Nat.reduceEqDiff, Nat.zero_add, reduceIte, Bool.false_eq_true, Bool.not_true, Bool.not_false, and_self, sizeM_eq, isi_int hv.no, isi_tuple hv.no, isi_bool hv.no]
    have q0 : ∀ k : Nat, decide (((k + 1 : Nat) : Int) = 0) = false := fun k => decide_eq_false (by omega)
    have qz : decide (((0 : Nat) : Int) = 0) = true := rfl
    cases v with
    | int i => simp only [isIntP, isBoolP, ev_bind, ev_nox, ev_seq, ev_set, ev_setOwn, ev_share, ev_drop, ev_ret, ev_retOwn, ev_skip, ev_brk, ev_cnt, ev_ifS, ev_frzS, ev_append, ev_setIx, ev_for, ev_lc, ev_seqOf, ev_range, ev_var, ev_c, ev_op, ev_un, ev_args, ev_nil, ev_cons, ev_frz, ev_b, ev_and, ev_or, ev_not, ev_andV, ev_orV, ev_notV, ev_if, ev_chain, ev_isi, ev_ixOwn, ev_lenOwn, ev_call, ev_callK, ev_sl, ev_part, ev_true, ev_nm, ev_toB, frz, frzAt, toSeq_tup, toSeq_lst, toSeq_cl, toRet, mWipe, kbG, Mir.gTup, Mir.gLst, List.getElem?_cons_zero, List.getElem?_cons_succ, List.set_cons_zero, List.set_cons_succ, List.length_cons, List.length_nil, List.append_nil, List.nil_append, List.cons_append, Nat.reduceAdd, Nat.reduceLeDiff, Nat.reduceEqDiff, Nat.zero_add, reduceIte, Bool.false_eq_true, Bool.not_true, Bool.not_false, and_self, sizeM_eq, Nat.zero_le, in012, isT]
    | bl b =>
      simp only [isIntP, isBoolP, isTupP, ev_bind, ev_nox, ev_seq, ev_set, ev_setOwn, ev_share, ev_drop, ev_ret, ev_retOwn, ev_skip, ev_brk, ev_cnt, ev_ifS, ev_frzS, ev_append, ev_setIx, ev_for, ev_lc, ev_seqOf, ev_range, ev_var, ev_c, ev_op, ev_un, ev_args, ev_nil, ev_cons, ev_frz, ev_b, ev_and, ev_or, ev_not, ev_andV, ev_orV, ev_notV, ev_if, ev_chain, ev_isi, ev_ixOwn, ev_lenOwn, ev_call, ev_callK, ev_sl, ev_part, ev_true, ev_nm, ev_toB, frz, frzAt, toSeq_tup, toSeq_lst, toSeq_cl, toRet, mWipe, kbG, Mir.gTup, Mir.gLst, List.getElem?_cons_zero, List.getElem?_cons_succ, List.set_cons_zero, List.set_cons_succ, List.length_cons, List.length_nil, List.append_nil, List.nil_append, List.cons_append, Nat.reduceAdd, Nat.reduceLeDiff, Nat.reduceEqDiff, Nat.zero_add, reduceIte, Bool.false_eq_true, Bool.not_true, Bool.not_false, and_self, sizeM_eq, eqD_int]
      cases n with
      | zero => simp only [qz, ev_bind, ev_nox, ev_seq, ev_set, ev_setOwn, ev_share, ev_drop, ev_ret, ev_retOwn, ev_skip, ev_brk, ev_cnt, ev_ifS, ev_frzS, ev_append, ev_setIx, ev_for, ev_lc, ev_seqOf, ev_range, ev_var, ev_c, ev_op, ev_un, ev_args, ev_nil, ev_cons, ev_frz, ev_b, ev_and, ev_or, ev_not, ev_andV, ev_orV, ev_notV, ev_if, ev_chain, ev_isi, ev_ixOwn, ev_lenOwn, ev_call, ev_callK, ev_sl, ev_part, ev_true, ev_nm, ev_toB, frz, frzAt, toSeq_tup, toSeq_lst, toSeq_cl, toRet, mWipe, kbG, Mir.gTup, Mir.gLst, List.getElem?_cons_zero, List.getElem?_cons_succ, List.set_cons_zero, List.set_cons_succ, List.length_cons, List.length_nil, List.append_nil, List.nil_append, List.cons_append, Nat.reduceAdd, Nat.reduceLeDiff, Nat.reduceEqDiff, Nat.zero_add, reduceIte, Bool.false_eq_true, Bool.not_true, Bool.not_false, and_self, sizeM_eq]; rfl
      | succ n => simp only [q0, ev_bind, ev_nox, ev_seq, ev_set, ev_setOwn, ev_share, ev_drop, ev_ret, ev_retOwn, ev_skip, ev_brk, ev_cnt, ev_ifS, ev_frzS, ev_append, ev_setIx, ev_for, ev_lc, ev_seqOf, ev_range, ev_var, ev_c, ev_op, ev_un, ev_args, ev_nil, ev_cons, ev_frz, ev_b, ev_and, ev_or, ev_not, ev_andV, ev_orV, ev_notV, ev_if, ev_chain, ev_isi, ev_ixOwn, ev_lenOwn, ev_call, ev_callK, ev_sl, ev_part, ev_true, ev_nm, ev_toB, frz, frzAt, toSeq_tup, toSeq_lst, toSeq_cl, toRet, mWipe, kbG, Mir.gTup, Mir.gLst, List.getElem?_cons_zero, List.getElem?_cons_succ, List.set_cons_zero, List.set_cons_succ, List.length_cons, List.length_nil, List.append_nil, List.nil_append, List.cons_append, Nat.reduceAdd, Nat.reduceLeDiff, Nat.reduceEqDiff, Nat.zero_add, reduceIte, Bool.false_eq_true, Bool.not_true, Bool.not_false, and_self, sizeM_eq, isi_tuple hv.no, isTupP]; rfl
    | non =>
      simp only [isIntP, isBoolP, isTupP, ev_bind, ev_nox, ev_seq, ev_set, ev_setOwn, ev_share, ev_drop, ev_ret, ev_retOwn, ev_skip, ev_brk, ev_cnt, ev_ifS, ev_frzS, ev_append, ev_setIx, ev_for, ev_lc, ev_seqOf, ev_range, ev_var, ev_c, ev_op, ev_un, ev_args, ev_nil, ev_cons, ev_frz, ev_b, ev_and, ev_or, ev_not, ev_andV, ev_orV, ev_notV, ev_if, ev_chain, ev_isi, ev_ixOwn, ev_lenOwn, ev_call, ev_callK, ev_sl, ev_part, ev_true, ev_nm, ev_toB, frz, frzAt, toSeq_tup, toSeq_lst, toSeq_cl, toRet, mWipe, kbG, Mir.gTup, Mir.gLst, List.getElem?_cons_zero, List.getElem?_cons_succ, List.set_cons_zero, List.set_cons_succ, List.length_cons, List.length_nil, List.append_nil, List.nil_append, List.cons_append, Nat.reduceAdd, Nat.reduceLeDiff, Nat.reduceEqDiff, Nat.zero_add, reduceIte, Bool.false_eq_true, Bool.not_true, Bool.not_false, and_self, sizeM_eq, eqD_int]
      cases n with
      | zero => simp only [qz, ev_bind, ev_nox, ev_seq, ev_set, ev_setOwn, ev_share, ev_drop, ev_ret, ev_retOwn, ev_skip, ev_brk, ev_cnt, ev_ifS, ev_frzS, ev_append, ev_setIx, ev_for, ev_lc, ev_seqOf, ev_range, ev_var, ev_c, ev_op, ev_un, ev_args, ev_nil, ev_cons, ev_frz, ev_b, ev_and, ev_or, ev_not, ev_andV, ev_orV, ev_notV, ev_if, ev_chain, ev_isi, ev_ixOwn, ev_lenOwn, ev_call, ev_callK, ev_sl, ev_part, ev_true, ev_nm, ev_toB, frz, frzAt, toSeq_tup, toSeq_lst, toSeq_cl, toRet, mWipe, kbG, Mir.gTup, Mir.gLst, List.getElem?_cons_zero, List.getElem?_cons_succ, List.set_cons_zero, List.set_cons_succ, List.length_cons, List.length_nil, List.append_nil, List.nil_append, List.cons_append, Nat.reduceAdd, Nat.reduceLeDiff, Nat.reduceEqDiff, Nat.zero_add, reduceIte, Bool.false_eq_true, Bool.not_true, Bool.not_false, and_self, sizeM_eq]; rfl
      | succ n => simp only [q0, ev_bind, ev_nox, ev_seq, ev_set, ev_setOwn, ev_share, ev_drop, ev_ret, ev_retOwn, ev_skip, ev_brk, ev_cnt, ev_ifS, ev_frzS, ev_append, ev_setIx, ev_for, ev_lc, ev_seqOf, ev_range, ev_var, ev_c, ev_op, ev_un, ev_args, ev_nil, ev_cons, ev_frz, ev_b, ev_and, ev_or, ev_not, ev_andV, ev_orV, ev_notV, ev_if, ev_chain, ev_isi, ev_ixOwn, ev_lenOwn, ev_call, ev_callK, ev_sl, ev_part, ev_true, ev_nm, ev_toB, frz, frzAt, toSeq_tup, toSeq_lst, toSeq_cl, toRet, mWipe, kbG, Mir.gTup, Mir.gLst, List.getElem?_cons_zero, List.getElem?_cons_succ, List.set_cons_zero, List.set_cons_succ, List.length_cons, List.length_nil, List.append_nil, List.nil_append, List.cons_append, Nat.reduceAdd, Nat.reduceLeDiff, Nat.reduceEqDiff, Nat.zero_add, reduceIte, Bool.false_eq_true, Bool.not_true, Bool.not_false, and_self, sizeM_eq, isi_tuple hv.no, isTupP]; rfl
    | str x =>
      simp only [isIntP, isBoolP, isTupP, ev_bind, ev_nox, ev_seq, ev_set, ev_setOwn, ev_share, ev_drop, ev_ret, ev_retOwn, ev_skip, ev_brk, ev_cnt, ev_ifS, ev_frzS, ev_append, ev_setIx, ev_for, ev_lc, ev_seqOf, ev_range, ev_var, ev_c, ev_op, ev_un, ev_args, ev_nil, ev_cons, ev_frz, ev_b, ev_and, ev_or, ev_not, ev_andV, ev_orV, ev_notV, ev_if, ev_chain, ev_isi, ev_ixOwn, ev_lenOwn, ev_call, ev_callK, ev_sl, ev_part, ev_true, ev_nm, ev_toB, frz, frzAt, toSeq_tup, toSeq_lst, toSeq_cl, toRet, mWipe, kbG, Mir.gTup, Mir.gLst, List.getElem?_cons_zero, List.getElem?_cons_succ, List.set_cons_zero, List.set_cons_succ, List.length_cons, List.length_nil, List.append_nil, List.nil_append, List.cons_append, Nat.reduceAdd, Nat.reduceLeDiff, Nat.reduceEqDiff, Nat.zero_add, reduceIte, Bool.false_eq_true, Bool.not_true, Bool.not_false, and_self, sizeM_eq, eqD_int]
      cases n with
      | zero => simp only [qz, ev_bind, ev_nox, ev_seq, ev_set, ev_setOwn, ev_share, ev_drop, ev_ret, ev_retOwn, ev_skip, ev_brk, ev_cnt, ev_ifS, ev_frzS, ev_append, ev_setIx, ev_for, ev_lc, ev_seqOf, ev_range, ev_var, ev_c, ev_op, ev_un, ev_args, ev_nil, ev_cons, ev_frz, ev_b, ev_and, ev_or, ev_not, ev_andV, ev_orV, ev_notV, ev_if, ev_chain, ev_isi, ev_ixOwn, ev_lenOwn, ev_call, ev_callK, ev_sl, ev_part, ev_true, ev_nm, ev_toB, frz, frzAt, toSeq_tup, toSeq_lst, toSeq_cl, toRet, mWipe, kbG, Mir.gTup, Mir.gLst, List.getElem?_cons_zero, List.getElem?_cons_succ, List.set_cons_zero, List.set_cons_succ, List.length_cons, List.length_nil, List.append_nil, List.nil_append, List.cons_append, Nat.reduceAdd, Nat.reduceLeDiff, Nat.reduceEqDiff, Nat.zero_add, reduceIte, Bool.false_eq_true, Bool.not_true, Bool.not_false, and_self, sizeM_eq]; rfl
      | succ n => simp only [q0, ev_bind, ev_nox, ev_seq, ev_set, ev_setOwn, ev_share, ev_drop, ev_ret, ev_retOwn, ev_skip, ev_brk, ev_cnt, ev_ifS, ev_frzS, ev_append, ev_setIx, ev_for, ev_lc, ev_seqOf, ev_range, ev_var, ev_c, ev_op, ev_un, ev_args, ev_nil, ev_cons, ev_frz, ev_b, ev_and, ev_or, ev_not, ev_andV, ev_orV, ev_notV, ev_if, ev_chain, ev_isi, ev_ixOwn, ev_lenOwn, ev_call, ev_callK, ev_sl, ev_part, ev_true, ev_nm, ev_toB, frz, frzAt, toSeq_tup, toSeq_lst, toSeq_cl, toRet, mWipe, kbG, Mir.gTup, Mir.gLst, List.getElem?_cons_zero, List.getElem?_cons_succ, List.set_cons_zero, List.set_cons_succ, List.length_cons, List.length_nil, List.append_nil, List.nil_append, List.cons_append, Nat.reduceAdd, Nat.reduceLeDiff, Nat.reduceEqDiff, Nat.zero_add, reduceIte, Bool.false_eq_true, Bool.not_true, Bool.not_false, and_self, sizeM_eq, isi_tuple hv.no, isTupP]; rfl
    | lst x =>
      simp only [isIntP, isBoolP, isTupP, ev_bind, ev_nox, ev_seq, ev_set, ev_setOwn, ev_share, ev_drop, ev_ret, ev_retOwn, ev_skip, ev_brk, ev_cnt, ev_ifS, ev_frzS, ev_append, ev_setIx, ev_for, ev_lc, ev_seqOf, ev_range, ev_var, ev_c, ev_op, ev_un, ev_args, ev_nil, ev_cons, ev_frz, ev_b, ev_and, ev_or, ev_not, ev_andV, ev_orV, ev_notV, ev_if, ev_chain, ev_isi, ev_ixOwn, ev_lenOwn, ev_call, ev_callK, ev_sl, ev_part, ev_true, ev_nm, ev_toB, frz, frzAt, toSeq_tup, toSeq_lst, toSeq_cl, toRet, mWipe, kbG, Mir.gTup, Mir.gLst, List.getElem?_cons_zero, List.getElem?_cons_succ, List.set_cons_zero, List.set_cons_succ, List.length_cons, List.length_nil, List.append_nil, List.nil_append, List.cons_append, Nat.reduceAdd, Nat.reduceLeDiff, Nat.reduceEqDiff, Nat.zero_add, reduceIte, Bool.false_eq_true, Bool.not_true, Bool.not_false, and_self, sizeM_eq, eqD_int]
      cases n with
      | zero => simp only [qz, ev_bind, ev_nox, ev_seq, ev_set, ev_setOwn, ev_share, ev_drop, ev_ret, ev_retOwn, ev_skip, ev_brk, ev_cnt, ev_ifS, ev_frzS, ev_append, ev_setIx, ev_for, ev_lc, ev_seqOf, ev_range, ev_var, ev_c, ev_op, ev_un, ev_args, ev_nil, ev_cons, ev_frz, ev_b, ev_and, ev_or, ev_not, ev_andV, ev_orV, ev_notV, ev_if, ev_chain, ev_isi, ev_ixOwn, ev_lenOwn, ev_call, ev_callK, ev_sl, ev_part, ev_true, ev_nm, ev_toB, frz, frzAt, toSeq_tup, toSeq_lst, toSeq_cl, toRet, mWipe, kbG, Mir.gTup, Mir.gLst, List.getElem?_cons_zero, List.getElem?_cons_succ, List.set_cons_zero, List.set_cons_succ, List.length_cons, List.length_nil, List.append_nil, List.nil_append, List.cons_append, Nat.reduceAdd, Nat.reduceLeDiff, Nat.reduceEqDiff, Nat.zero_add, reduceIte, Bool.false_eq_true, Bool.not_true, Bool.not_false, and_self, sizeM_eq]; rfl
      | succ n => simp only [q0, ev_bind, ev_nox, ev_seq, ev_set, ev_setOwn, ev_share, ev_drop, ev_ret, ev_retOwn, ev_skip, ev_brk, ev_cnt, ev_ifS, ev_frzS, ev_append, ev_setIx, ev_for, ev_lc, ev_seqOf, ev_range, ev_var, ev_c, ev_op, ev_un, ev_args, ev_nil, ev_cons, ev_frz, ev_b, ev_and, ev_or, ev_not, ev_andV, ev_orV, ev_notV, ev_if, ev_chain, ev_isi, ev_ixOwn, ev_lenOwn, ev_call, ev_callK, ev_sl, ev_part, ev_true, ev_nm, ev_toB, frz, frzAt, toSeq_tup, toSeq_lst, toSeq_cl, toRet, mWipe, kbG, Mir.gTup, Mir.gLst, List.getElem?_cons_zero, List.getElem?_cons_succ, List.set_cons_zero, List.set_cons_succ, List.length_cons, List.length_nil, List.append_nil, List.nil_append, List.cons_append, Nat.reduceAdd, Nat.reduceLeDiff, Nat.reduceEqDiff, Nat.zero_add, reduceIte, Bool.false_eq_true, Bool.not_true, Bool.not_false, and_self, sizeM_eq, isi_tuple hv.no, isTupP]; rfl
    | cl x =>
      simp only [isIntP, isBoolP, isTupP, ev_bind, ev_nox, ev_seq, ev_set, ev_setOwn, ev_share, ev_drop, ev_ret, ev_retOwn, ev_skip, ev_brk, ev_cnt, ev_ifS, ev_frzS, ev_append, ev_setIx, ev_for, ev_lc, ev_seqOf, ev_range, ev_var, ev_c, ev_op, ev_un, ev_args, ev_nil, ev_cons, ev_frz, ev_b, ev_and, ev_or, ev_not, ev_andV, ev_orV, ev_notV, ev_if, ev_chain, ev_isi, ev_ixOwn, ev_lenOwn, ev_call, ev_callK, ev_sl, ev_part, ev_true, ev_nm, ev_toB, frz, frzAt, toSeq_tup, toSeq_lst, toSeq_cl, toRet, mWipe, kbG, Mir.gTup, Mir.gLst, List.getElem?_cons_zero, List.getElem?_cons_succ, List.set_cons_zero, List.set_cons_succ, List.length_cons, List.length_nil, List.append_nil, List.nil_append, List.cons_append, Nat.reduceAdd, Nat.reduceLeDiff, Nat.reduceEqDiff, Nat.zero_add, reduceIte, Bool.false_eq_true, Bool.not_true, Bool.not_false, and_self, sizeM_eq, eqD_int]
      cases n with
      | zero => simp only [qz, ev_bind, ev_nox, ev_seq, ev_set, ev_setOwn, ev_share, ev_drop, ev_ret, ev_retOwn, ev_skip, ev_brk, ev_cnt, ev_ifS, ev_frzS, ev_append, ev_setIx, ev_for, ev_lc, ev_seqOf, ev_range, ev_var, ev_c, ev_op, ev_un, ev_args, ev_nil, ev_cons, ev_frz, ev_b, ev_and, ev_or, ev_not, ev_andV, ev_orV, ev_notV, ev_if, ev_chain, ev_isi, ev_ixOwn, ev_lenOwn, ev_call, ev_callK, ev_sl, ev_part, ev_true, ev_nm, ev_toB, frz, frzAt, toSeq_tup, toSeq_lst, toSeq_cl, toRet, mWipe, kbG, Mir.gTup, Mir.gLst, List.getElem?_cons_zero, List.getElem?_cons_succ, List.set_cons_zero, List.set_cons_succ, List.length_cons, List.length_nil, List.append_nil, List.nil_append, List.cons_append, Nat.reduceAdd, Nat.reduceLeDiff, Nat.reduceEqDiff, Nat.zero_add, reduceIte, Bool.false_eq_true, Bool.not_true, Bool.not_false, and_self, sizeM_eq]; rfl
      | succ n => simp only [q0, ev_bind, ev_nox, ev_seq, ev_set, ev_setOwn, ev_share, ev_drop, ev_ret, ev_retOwn, ev_skip, ev_brk, ev_cnt, ev_ifS, ev_frzS, ev_append, ev_setIx, ev_for, ev_lc, ev_seqOf, ev_range, ev_var, ev_c, ev_op, ev_un, ev_args, ev_nil, ev_cons, ev_frz, ev_b, ev_and, ev_or, ev_not, ev_andV, ev_orV, ev_notV, ev_if, ev_chain, ev_isi, ev_ixOwn, ev_lenOwn, ev_call, ev_callK, ev_sl, ev_part, ev_true, ev_nm, ev_toB, frz, frzAt, toSeq_tup, toSeq_lst, toSeq_cl, toRet, mWipe, kbG, Mir.gTup, Mir.gLst, List.getElem?_cons_zero, List.getElem?_cons_succ, List.set_cons_zero, List.set_cons_succ, List.length_cons, List.length_nil, List.append_nil, List.nil_append, List.cons_append, Nat.reduceAdd, Nat.reduceLeDiff, Nat.reduceEqDiff, Nat.zero_add, reduceIte, Bool.false_eq_true, Bool.not_true, Bool.not_false, and_self, sizeM_eq, isi_tuple hv.no, isTupP]; rfl
    | obj k => exact absurd rfl (hv.no k)
    | tup xs =>
      simp only [isIntP, isTupP, ev_bind, ev_nox, ev_seq, ev_set, ev_setOwn, ev_share, ev_drop, ev_ret, ev_retOwn, ev_skip, ev_brk, ev_cnt, ev_ifS, ev_frzS, ev_append, ev_setIx, ev_for, ev_lc, ev_seqOf, ev_range, ev_var, ev_c, ev_op, ev_un, ev_args, ev_nil, ev_cons, ev_frz, ev_b, ev_and, ev_or, ev_not, ev_andV, ev_orV, ev_notV, ev_if, ev_chain, ev_isi, ev_ixOwn, ev_lenOwn, ev_call, ev_callK, ev_sl, ev_part, ev_true, ev_nm, ev_toB, frz, frzAt, toSeq_tup, toSeq_lst, toSeq_cl, toRet, mWipe, kbG, Mir.gTup, Mir.gLst, List.getElem?_cons_zero, List.getElem?_cons_succ, List.set_cons_zero, List.set_cons_succ, List.length_cons, List.length_nil, List.append_nil, List.nil_append, List.cons_append, Nat.reduceAdd, Nat.reduceLeDiff, Nat.reduceEqDiff, Nat.zero_add, reduceIte, Bool.false_eq_true, Bool.not_true, Bool.not_false, and_self, sizeM_eq, gAddA, gAdd, gMulA, gMul, Mir.gSub, gFdiv, gMod, gLt, gLe, gGt, gGe, gLen, gInt, gAbs, gNeg, neD_int, eqD_int]
      cases n with
      | zero =>
        simp only [qz, ev_bind, ev_nox, ev_seq, ev_set, ev_setOwn, ev_share, ev_drop, ev_ret, ev_retOwn, ev_skip, ev_brk, ev_cnt, ev_ifS, ev_frzS, ev_append, ev_setIx, ev_for, ev_lc, ev_seqOf, ev_range, ev_var, ev_c, ev_op, ev_un, ev_args, ev_nil, ev_cons, ev_frz, ev_b, ev_and, ev_or, ev_not, ev_andV, ev_orV, ev_notV, ev_if, ev_chain, ev_isi, ev_ixOwn, ev_lenOwn, ev_call, ev_callK, ev_sl, ev_part, ev_true, ev_nm, ev_toB, frz, frzAt, toSeq_tup, toSeq_lst, toSeq_cl, toRet, mWipe, kbG, Mir.gTup, Mir.gLst, List.getElem?_cons_zero, List.getElem?_cons_succ, List.set_cons_zero, List.set_cons_succ, List.length_cons, List.length_nil, List.append_nil, List.nil_append, List.cons_append, Nat.reduceAdd, Nat.reduceLeDiff, Nat.reduceEqDiff, Nat.zero_add, reduceIte, Bool.false_eq_true, Bool.not_true, Bool.not_false, and_self, sizeM_eq]
        match xs with
        | [] => rfl
        | [_] => rfl
        | [_, _] => rfl
        | [_, _, _] => rfl
        | _ :: _ :: _ :: _ :: _ => rfl
      | succ n =>
        simp only [q0, ev_bind, ev_nox, ev_seq, ev_set, ev_setOwn, ev_share, ev_drop, ev_ret, ev_retOwn, ev_skip, ev_brk, ev_cnt, ev_ifS, ev_frzS, ev_append, ev_setIx, ev_for, ev_lc, ev_seqOf, ev_range, ev_var, ev_c, ev_op, ev_un, ev_args, ev_nil, ev_cons, ev_frz, ev_b, ev_and, ev_or, ev_not, ev_andV, ev_orV, ev_notV, ev_if, ev_chain, ev_isi, ev_ixOwn, ev_lenOwn, ev_call, ev_callK, ev_sl, ev_part, ev_true, ev_nm, ev_toB, frz, frzAt, toSeq_tup, toSeq_lst, toSeq_cl, toRet, mWipe, kbG, Mir.gTup, Mir.gLst, List.getElem?_cons_zero, List.getElem?_cons_succ, List.set_cons_zero, List.set_cons_succ, List.length_cons, List.length_nil, List.append_nil, List.nil_append, List.cons_append, Nat.reduceAdd, Nat.reduceLeDiff, Nat.reduceEqDiff, Nat.zero_add, reduceIte, Bool.false_eq_true, Bool.not_true, Bool.not_false, and_self, sizeM_eq, gAddA, gAdd, gMulA, gMul, Mir.gSub, gFdiv, gMod, gLt, gLe, gGt, gGe, gLen, gInt, gAbs, gNeg, isi_tuple hv.no, isTupP, neD_int]
        by_cases h3 : xs.length = 3
        · have q3 : decide ((xs.length : Int) = 3) = true := decide_eq_true (by omega)
          simp only [q3, ev_bind, ev_nox, ev_seq, ev_set, ev_setOwn, ev_share, ev_drop, ev_ret, ev_retOwn, ev_skip, ev_brk, ev_cnt, ev_ifS, ev_frzS, ev_append, ev_setIx, ev_for, ev_lc, ev_seqOf, ev_range, ev_var, ev_c, ev_op, ev_un, ev_args, ev_nil, ev_cons, ev_frz, ev_b, ev_and, ev_or, ev_not, ev_andV, ev_orV, ev_notV, ev_if, ev_chain, ev_isi, ev_ixOwn, ev_lenOwn, ev_call, ev_callK, ev_sl, ev_part, ev_true, ev_nm, ev_toB, frz, frzAt, toSeq_tup, toSeq_lst, toSeq_cl, toRet, mWipe, kbG, Mir.gTup, Mir.gLst, List.getElem?_cons_zero, List.getElem?_cons_succ, List.set_cons_zero, List.set_cons_succ, List.length_cons, List.length_nil, List.append_nil, List.nil_append, List.cons_append, Nat.reduceAdd, Nat.reduceLeDiff, Nat.reduceEqDiff, Nat.zero_add, reduceIte, Bool.false_eq_true, Bool.not_true, Bool.not_false, and_self, sizeM_eq, gAddA, gAdd, gMulA, gMul, Mir.gSub, gFdiv, gMod, gLt, gLe, gGt, gGe, gLen, gInt, gAbs, gNeg]
          match xs, h3, hv with
          | [a, b, c], _, hv =>
            have qs : ((n + 1 : Nat) : Int) - 1 = n := by omega
            have cl := hv.tup
            have lc := lc_map (g := gNm 2) (t := mTrue) (a := mCall 2 (m__law_is_term f) [] (mCons (mVar 2) (mCons (mOp gSub (mVar 1) (mC (.int 1))) mNil))) (ρ := [.val (.tup [a, b, c]), .val (.int ((n + 1 : Nat) : Int)), .none]) (xs := [a, b, c]) (S := S) (fun x => .bl (isT n x)) fun x hx => by
              refine ⟨_, rfl, rfl, ?_⟩
              simp only [ev_bind, ev_nox, ev_seq, ev_set, ev_setOwn, ev_share, ev_drop, ev_ret, ev_retOwn, ev_skip, ev_brk, ev_cnt, ev_ifS, ev_frzS, ev_append, ev_setIx, ev_for, ev_lc, ev_seqOf, ev_range, ev_var, ev_c, ev_op, ev_un, ev_args, ev_nil, ev_cons, ev_frz, ev_b, ev_and, ev_or, ev_not, ev_andV, ev_orV, ev_notV, ev_if, ev_chain, ev_isi, ev_ixOwn, ev_lenOwn, ev_call, ev_callK, ev_sl, ev_part, ev_true, ev_nm, ev_toB, frz, frzAt, toSeq_tup, toSeq_lst, toSeq_cl, toRet, mWipe, kbG, Mir.gTup, Mir.gLst, List.getElem?_cons_zero, List.getElem?_cons_succ, List.set_cons_zero, List.set_cons_succ, List.length_cons, List.length_nil, List.append_nil, List.nil_append, List.cons_append, Nat.reduceAdd, Nat.reduceLeDiff, Nat.reduceEqDiff, Nat.zero_add, reduceIte, Bool.false_eq_true, Bool.not_true, Bool.not_false, and_self, sizeM_eq, gAddA, gAdd, gMulA, gMul, Mir.gSub, gFdiv, gMod, gLt, gLe, gGt, gGe, gLen, gInt, gAbs, gNeg, qs, lawisterm_ok n f x (by omega) (cl x hx) S]
            simp only [ev_bind, ev_nox, ev_seq, ev_set, ev_setOwn, ev_share, ev_drop, ev_ret, ev_retOwn, ev_skip, ev_brk, ev_cnt, ev_ifS, ev_frzS, ev_append, ev_setIx, ev_for, ev_lc, ev_seqOf, ev_range, ev_var, ev_c, ev_op, ev_un, ev_args, ev_nil, ev_cons, ev_frz, ev_b, ev_and, ev_or, ev_not, ev_andV, ev_orV, ev_notV, ev_if, ev_chain, ev_isi, ev_ixOwn, ev_lenOwn, ev_call, ev_callK, ev_sl, ev_part, ev_true, ev_nm, ev_toB, frz, frzAt, toSeq_tup, toSeq_lst, toSeq_cl, toRet, mWipe, kbG, Mir.gTup, Mir.gLst, List.getElem?_cons_zero, List.getElem?_cons_succ, List.set_cons_zero, List.set_cons_succ, List.length_cons, List.length_nil, List.append_nil, List.nil_append, List.cons_append, Nat.reduceAdd, Nat.reduceLeDiff, Nat.reduceEqDiff, Nat.zero_add, reduceIte, Bool.false_eq_true, Bool.not_true, Bool.not_false, and_self, sizeM_eq, lc, gAll, mapM_bl, Nat.reduceLeDiff]
            simp only [List.map_cons, List.map_nil, List.all_cons, List.all_nil, id, Bool.and_true, isT]
        · have q3 : decide ((xs.length : Int) = 3) = false := decide_eq_false (by omega)
          simp only [q3, ev_bind, ev_nox, ev_seq, ev_set, ev_setOwn, ev_share, ev_drop, ev_ret, ev_retOwn, ev_skip, ev_brk, ev_cnt, ev_ifS, ev_frzS, ev_append, ev_setIx, ev_for, ev_lc, ev_seqOf, ev_range, ev_var, ev_c, ev_op, ev_un, ev_args, ev_nil, ev_cons, ev_frz, ev_b, ev_and, ev_or, ev_not, ev_andV, ev_orV, ev_notV, ev_if, ev_chain, ev_isi, ev_ixOwn, ev_lenOwn, ev_call, ev_callK, ev_sl, ev_part, ev_true, ev_nm, ev_toB, frz, frzAt, toSeq_tup, toSeq_lst, toSeq_cl, toRet, mWipe, kbG, Mir.gTup, Mir.gLst, List.getElem?_cons_zero, List.getElem?_cons_succ, List.set_cons_zero, List.set_cons_succ, List.length_cons, List.length_nil, List.append_nil, List.nil_append, List.cons_append, Nat.reduceAdd, Nat.reduceLeDiff, Nat.reduceEqDiff, Nat.zero_add, reduceIte, Bool.false_eq_true, Bool.not_true, Bool.not_false, and_self, sizeM_eq]
          match xs, h3 with
          | [], _ => rfl
          | [_], _ => rfl
          | [_, _], _ => rfl
          | [_, _, _], h => exact absurd rfl h
          | _ :: _ :: _ :: _ :: _, _ => rfl
/-! ### tables that terms tell -/
theorem atI_rowI {r : List Int} {e : Int} (h : 0 ≤ e) (h2 : e < r.length) : atI (r.map PV.int) e = some (.int (r.getD e.toNat 0)) := by
  have := atI_row (r := r) (j := e.toNat) (by omega)
  rw [Int.toNat_of_nonneg h] at this
  exact this
theorem bit_at {r : List Int} (hb : Bits r) (j : Nat) : r.getD j 0 = 0 ∨ r.getD j 0 = 1 := by
  rw [List.getD_eq_getElem?_getD]
  cases h : r[j]? with
  | none => exact .inl rfl
  | some v => exact hb v (List.mem_of_getElem? h)
/-- a table's value of three rows -/
def mix (tb A B C : List Int) : List Int := (List.range 8).map fun k => tb.getD (4 * A.getD k 0 + 2 * B.getD k 0 + C.getD k 0).toNat 0
def placeR (i : Int) : List Int := [[0, 0, 0, 0, 1, 1, 1, 1], [0, 0, 1, 1, 0, 0, 1, 1], [0, 1, 0, 1, 0, 1, 0, 1]].getD i.toNat []
def tbl (tb : List Int) : PV → List Int
  | .int i => placeR i
  | .tup [a, b, c] => mix tb (tbl tb a) (tbl tb b) (tbl tb c)
  | _ => []
structure Row8 (r : List Int) : Prop where
  len : r.length = 8
  bits : Bits r
theorem mix_row {tb A B C : List Int} (T : Row8 tb) : Row8 (mix tb A B C) := ⟨by simp [mix], fun b h => by
  obtain ⟨j, _, rfl⟩ := List.mem_map.mp h
  exact bit_at T.bits _⟩
theorem place_row {i : Int} (h : 0 ≤ i) (h2 : i ≤ 2) : Row8 (placeR i) := by
  have : i = 0 ∨ i = 1 ∨ i = 2 := by omega
  rcases this with rfl | rfl | rfl <;> exact ⟨rfl, by unfold Bits placeR; decide⟩
theorem tbl_row {tb : List Int} (T : Row8 tb) : ∀ (n : Nat) (v : PV), isT n v = true → Row8 (tbl tb v)
  | n, .int i, h => by
    have h : (decide (0 ≤ i) && decide (i ≤ 2)) = true := by cases n <;> exact h
    simp only [Bool.and_eq_true, decide_eq_true_eq] at h
    simp only [tbl]
    exact place_row h.1 h.2
  | n + 1, .tup [a, b, c], h => by
    simp only [tbl]
    exact mix_row T
  | 0, .tup _, h => by simp [isT] at h
  | n + 1, .tup [], h => by simp [isT] at h
  | n + 1, .tup [_], h => by simp [isT] at h
  | n + 1, .tup [_, _], h => by simp [isT] at h
  | n + 1, .tup (_ :: _ :: _ :: _ :: _), h => by simp [isT] at h
  | n, .non, h => by cases n <;> simp [isT] at h
  | n, .bl _, h => by cases n <;> simp [isT] at h
  | n, .str _, h => by cases n <;> simp [isT] at h
  | n, .lst _, h => by cases n <;> simp [isT] at h
  | n, .cl _, h => by cases n <;> simp [isT] at h
  | n, .obj _, h => by cases n <;> simp [isT] at h
def rng (n : Nat) : List PV := (List.range n).map fun (k : Nat) => PV.int (k : Int)
theorem putin_ok {tb A B C : List Int} (T : Row8 tb) (hA : Row8 A) (hB : Row8 B) (hC : Row8 C) (S : Store) : m_put_in [rowP tb, .lst [rowP A, rowP B, rowP C]] S = .ok (rowP (mix tb A B C)) S := by
  have lc := lc_map (g := gNm 5) (t := mTrue) (a := mOp gIx (mVar 0) (mOp gAddA (mOp gAddA (mOp gMulA (mC (.int 4)) (mOp gIx (mVar 2) (mVar 5))) (mOp gMulA (mC (.int 2)) (mOp gIx (mVar 3) (mVar 5)))) (mOp gIx (mVar 4) (mVar 5)))) (ρ := [.val (rowP tb), .val (.lst [rowP A, rowP B, rowP C]), .val (rowP A), .val (rowP B), .val (rowP C), .none]) (xs := rng 8) (S := S)
    (fun y => match y with | .int j => .int (tb.getD (4 * A.getD j.toNat 0 + 2 * B.getD j.toNat 0 + C.getD j.toNat 0).toNat 0) | y => y) fun y hy => by
      obtain ⟨j, hj, rfl⟩ := List.mem_map.mp hy
      have hj : j < 8 := by simpa using hj
      refine ⟨_, rfl, rfl, ?_⟩
      have a1 := atI_row (r := A) (j := j) (by rw [hA.len]; exact hj)
      have b1 := atI_row (r := B) (j := j) (by rw [hB.len]; exact hj)
      have c1 := atI_row (r := C) (j := j) (by rw [hC.len]; exact hj)
      have ba := bit_at hA.bits j
      have bb := bit_at hB.bits j
      have bc := bit_at hC.bits j
      have t1 := atI_rowI (r := tb) (e := 4 * A.getD j 0 + 2 * B.getD j 0 + C.getD j 0) (by omega) (by rw [T.len]; omega)
      have s4 : small64 4 = true := by decide
      have s2 : small64 2 = true := by decide
      simp only [ev_bind, ev_nox, ev_seq, ev_set, ev_setOwn, ev_share, ev_drop, ev_ret, ev_retOwn, ev_skip, ev_brk, ev_cnt, ev_ifS, ev_frzS, ev_append, ev_setIx, ev_for, ev_lc, ev_seqOf, ev_range, ev_var, ev_c, ev_op, ev_un, ev_args, ev_nil, ev_cons, ev_frz, ev_b, ev_and, ev_or, ev_not, ev_andV, ev_orV, ev_notV, ev_if, ev_chain, ev_isi, ev_ixOwn, ev_lenOwn, ev_call, ev_callK, ev_sl, ev_part, ev_true, ev_nm, ev_toB, frz, frzAt, toSeq_tup, toSeq_lst, toSeq_cl, toRet, mWipe, kbG, Mir.gTup, Mir.gLst, List.getElem?_cons_zero, List.getElem?_cons_succ, List.set_cons_zero, List.set_cons_succ, List.length_cons, List.length_nil, List.append_nil, List.nil_append, List.cons_append, Nat.reduceAdd, Nat.reduceLeDiff, Nat.reduceEqDiff, Nat.zero_add, reduceIte, Bool.false_eq_true, Bool.not_true, Bool.not_false, and_self, sizeM_eq, rowP, gIx, a1, b1, c1, gAddA, gAdd, gMulA, gMul, Mir.gSub, gFdiv, gMod, gLt, gLe, gGt, gGe, gLen, gInt, gAbs, gNeg, s4, s2, Bool.true_or, t1, Int.toNat_natCast]
  show (b_put_in [.val (rowP tb), .val (.lst [rowP A, rowP B, rowP C]), .none, .none, .none, .none] S).bind toRet = _
  unfold b_put_in
  unfold rng at lc
  have r8 : range62 8 = true := by decide
  simp only [ev_bind, ev_nox, ev_seq, ev_set, ev_setOwn, ev_share, ev_drop, ev_ret, ev_retOwn, ev_skip, ev_brk, ev_cnt, ev_ifS, ev_frzS, ev_append, ev_setIx, ev_for, ev_lc, ev_seqOf, ev_range, ev_var, ev_c, ev_op, ev_un, ev_args, ev_nil, ev_cons, ev_frz, ev_b, ev_and, ev_or, ev_not, ev_andV, ev_orV, ev_notV, ev_if, ev_chain, ev_isi, ev_ixOwn, ev_lenOwn, ev_call, ev_callK, ev_sl, ev_part, ev_true, ev_nm, ev_toB, frz, frzAt, toSeq_tup, toSeq_lst, toSeq_cl, toRet, mWipe, kbG, Mir.gTup, Mir.gLst, List.getElem?_cons_zero, List.getElem?_cons_succ, List.set_cons_zero, List.set_cons_succ, List.length_cons, List.length_nil, List.append_nil, List.nil_append, List.cons_append, Nat.reduceAdd, Nat.reduceLeDiff, Nat.reduceEqDiff, Nat.zero_add, reduceIte, Bool.false_eq_true, Bool.not_true, Bool.not_false, and_self, sizeM_eq, ev_bindExc, ev_asg, ev_unTup, ev_unLst, ev_tupM, ev_gsCons, ev_gsNil, ev_raise, ev_tryL, ev_tryOk, ev_tryExc, ev_kin, ev_kget, ev_index, eqD_int, neD_int, gRange1, r8, show (8 : Int).toNat = 8 from rfl, List.length_map, List.length_range, lc, gTuple, List.map_map]
  unfold rowP mix
  rw [List.map_map]
  rfl
theorem isT_cases : ∀ {n : Nat} {v : PV}, isT n v = true → (∃ i, v = .int i ∧ 0 ≤ i ∧ i ≤ 2) ∨ ∃ m a b c, n = m + 1 ∧ v = .tup [a, b, c] ∧ isT m a = true ∧ isT m b = true ∧ isT m c = true
  | n, .int i, h => by
    have h : (decide (0 ≤ i) && decide (i ≤ 2)) = true := by cases n <;> exact h
    simp only [Bool.and_eq_true, decide_eq_true_eq] at h
    exact .inl ⟨i, rfl, h.1, h.2⟩
  | n + 1, .tup [a, b, c], h => by
    simp only [isT, Bool.and_eq_true] at h
    exact .inr ⟨n, a, b, c, rfl, rfl, h.1, h.2.1, h.2.2⟩
  | 0, .tup _, h => by simp [isT] at h
  | n + 1, .tup [], h => by simp [isT] at h
  | n + 1, .tup [_], h => by simp [isT] at h
  | n + 1, .tup [_, _], h => by simp [isT] at h
  | n + 1, .tup (_ :: _ :: _ :: _ :: _), h => by simp [isT] at h
  | n, .non, h => by cases n <;> simp [isT] at h
  | n, .bl _, h => by cases n <;> simp [isT] at h
  | n, .str _, h => by cases n <;> simp [isT] at h
  | n, .lst _, h => by cases n <;> simp [isT] at h
  | n, .cl _, h => by cases n <;> simp [isT] at h
  | n, .obj _, h => by cases n <;> simp [isT] at h
theorem told_ok {tb : List Int} (T : Row8 tb) : ∀ (n f : Nat) (v : PV), n < f → Clean v → isT n v = true → ∀ S, m__told f [rowP tb, v] S = .ok (rowP (tbl tb v)) S
  | n, 0, _, h, _, _, _ => absurd h (Nat.not_lt_zero n)
  | n, f + 1, v, hf, hv, ht, S => by
    show (b__told (m__told f) [.val (rowP tb), .val v, .none] S).bind toRet = _
    unfold b__told
    simp only [ev_bind, ev_nox, ev_seq, ev_set, ev_setOwn, ev_share, ev_drop, ev_ret, ev_retOwn, ev_skip, ev_brk, ev_cnt, ev_ifS, ev_frzS, ev_append, ev_setIx, ev_for, ev_lc, ev_seqOf, ev_range, ev_var, ev_c, ev_op, ev_un, ev_args, ev_nil, ev_cons, ev_frz, ev_b, ev_and, ev_or, ev_not, ev_andV, ev_orV, ev_notV, ev_if, ev_chain, ev_isi, ev_ixOwn, ev_lenOwn, ev_call, ev_callK, ev_sl, ev_part, ev_true, ev_nm, ev_toB, frz, frzAt, toSeq_tup, toSeq_lst, toSeq_cl, toRet, mWipe, kbG, Mir.gTup, Mir.gLst, List.getElem?_cons_zero, List.getElem?_cons_succ, List.set_cons_zero, List.set_cons_succ, List.length_cons, List.length_nil, List.append_nil, List.nil_append, List.cons_append, Nat.reduceAdd, Nat.reduceLeDiff, Nat.reduceEqDiff, Nat.zero_add, reduceIte, Bool.false_eq_true, Bool.not_true, Bool.not_false, and_self, sizeM_eq, isi_int hv.no]
    rcases isT_cases ht with ⟨i, rfl, h0, h2⟩ | ⟨n, a, b, c, rfl, rfl, hx⟩
    · have : i = 0 ∨ i = 1 ∨ i = 2 := by omega
      rcases this with rfl | rfl | rfl <;> rfl
    · have cl := hv.tup
      have ta := told_ok T n f a (by omega) (cl a (by simp)) hx.1 S
      have tb' := told_ok T n f b (by omega) (cl b (by simp)) hx.2.1 S
      have tc := told_ok T n f c (by omega) (cl c (by simp)) hx.2.2 S
      have lc : mLcGo (gNm 2) mTrue (mCall 2 (m__told f) [] (mCons (mVar 0) (mCons (mVar 2) mNil))) [.val (rowP tb), .val (.tup [a, b, c]), .none] [a, b, c] S = .ok [rowP (tbl tb a), rowP (tbl tb b), rowP (tbl tb c)] S := by
        simp only [mLcGo, ev_bind, ev_nox, ev_seq, ev_set, ev_setOwn, ev_share, ev_drop, ev_ret, ev_retOwn, ev_skip, ev_brk, ev_cnt, ev_ifS, ev_frzS, ev_append, ev_setIx, ev_for, ev_lc, ev_seqOf, ev_range, ev_var, ev_c, ev_op, ev_un, ev_args, ev_nil, ev_cons, ev_frz, ev_b, ev_and, ev_or, ev_not, ev_andV, ev_orV, ev_notV, ev_if, ev_chain, ev_isi, ev_ixOwn, ev_lenOwn, ev_call, ev_callK, ev_sl, ev_part, ev_true, ev_nm, ev_toB, frz, frzAt, toSeq_tup, toSeq_lst, toSeq_cl, toRet, mWipe, kbG, Mir.gTup, Mir.gLst, List.getElem?_cons_zero, List.getElem?_cons_succ, List.set_cons_zero, List.set_cons_succ, List.length_cons, List.length_nil, List.append_nil, List.nil_append, List.cons_append, Nat.reduceAdd, Nat.reduceLeDiff, Nat.reduceEqDiff, Nat.zero_add, reduceIte, Bool.false_eq_true, Bool.not_true, Bool.not_false, and_self, sizeM_eq, ta, tb', tc]
      simp only [isIntP, ev_bind, ev_nox, ev_seq, ev_set, ev_setOwn, ev_share, ev_drop, ev_ret, ev_retOwn, ev_skip, ev_brk, ev_cnt, ev_ifS, ev_frzS, ev_append, ev_setIx, ev_for, ev_lc, ev_seqOf, ev_range, ev_var, ev_c, ev_op, ev_un, ev_args, ev_nil, ev_cons, ev_frz, ev_b, ev_and, ev_or, ev_not, ev_andV, ev_orV, ev_notV, ev_if, ev_chain, ev_isi, ev_ixOwn, ev_lenOwn, ev_call, ev_callK, ev_sl, ev_part, ev_true, ev_nm, ev_toB, frz, frzAt, toSeq_tup, toSeq_lst, toSeq_cl, toRet, mWipe, kbG, Mir.gTup, Mir.gLst, List.getElem?_cons_zero, List.getElem?_cons_succ, List.set_cons_zero, List.set_cons_succ, List.length_cons, List.length_nil, List.append_nil, List.nil_append, List.cons_append, Nat.reduceAdd, Nat.reduceLeDiff, Nat.reduceEqDiff, Nat.zero_add, reduceIte, Bool.false_eq_true, Bool.not_true, Bool.not_false, and_self, sizeM_eq, lc, putin_ok T (tbl_row T n a hx.1) (tbl_row T n b hx.2.1) (tbl_row T n c hx.2.2) S, tbl]
theorem lawtable_ok {tb : List Int} (T : Row8 tb) : ∀ (n f : Nat) (v : PV), n < f → Clean v → isT n v = true → ∀ S, m__law_term_table f [rowP tb, v] S = .ok (rowP (tbl tb v)) S
  | n, 0, _, h, _, _, _ => absurd h (Nat.not_lt_zero n)
  | n, f + 1, v, hf, hv, ht, S => by
    show (b__law_term_table (m__law_term_table f) [.val (rowP tb), .val v, .none, .none, .none, .none] S).bind toRet = _
    unfold b__law_term_table
    simp only [ev_bind, ev_nox, ev_seq, ev_set, ev_setOwn, ev_share, ev_drop, ev_ret, ev_retOwn, ev_skip, ev_brk, ev_cnt, ev_ifS, ev_frzS, ev_append, ev_setIx, ev_for, ev_lc, ev_seqOf, ev_range, ev_var, ev_c, ev_op, ev_un, ev_args, ev_nil, ev_cons, ev_frz, ev_b, ev_and, ev_or, ev_not, ev_andV, ev_orV, ev_notV, ev_if, ev_chain, ev_isi, ev_ixOwn, ev_lenOwn, ev_call, ev_callK, ev_sl, ev_part, ev_true, ev_nm, ev_toB, frz, frzAt, toSeq_tup, toSeq_lst, toSeq_cl, toRet, mWipe, kbG, Mir.gTup, Mir.gLst, List.getElem?_cons_zero, List.getElem?_cons_succ, List.set_cons_zero, List.set_cons_succ, List.length_cons, List.length_nil, List.append_nil, List.nil_append, List.cons_append, Nat.reduceAdd, Nat.reduceLeDiff, Nat.reduceEqDiff, Nat.zero_add, reduceIte, Bool.false_eq_true, Bool.not_true, Bool.not_false, and_self, sizeM_eq, isi_int hv.no]
    rcases isT_cases ht with ⟨i, rfl, h0, h2⟩ | ⟨n, a, b, c, rfl, rfl, hx⟩
    · have ev : m__law_every [.int 3] S = .ok (.lst ((rowsE 3).map rowP)) S := by kernel_rfl
      simp only [isIntP, ev_bind, ev_nox, ev_seq, ev_set, ev_setOwn, ev_share, ev_drop, ev_ret, ev_retOwn, ev_skip, ev_brk, ev_cnt, ev_ifS, ev_frzS, ev_append, ev_setIx, ev_for, ev_lc, ev_seqOf, ev_range, ev_var, ev_c, ev_op, ev_un, ev_args, ev_nil, ev_cons, ev_frz, ev_b, ev_and, ev_or, ev_not, ev_andV, ev_orV, ev_notV, ev_if, ev_chain, ev_isi, ev_ixOwn, ev_lenOwn, ev_call, ev_callK, ev_sl, ev_part, ev_true, ev_nm, ev_toB, frz, frzAt, toSeq_tup, toSeq_lst, toSeq_cl, toRet, mWipe, kbG, Mir.gTup, Mir.gLst, List.getElem?_cons_zero, List.getElem?_cons_succ, List.set_cons_zero, List.set_cons_succ, List.length_cons, List.length_nil, List.append_nil, List.nil_append, List.cons_append, Nat.reduceAdd, Nat.reduceLeDiff, Nat.reduceEqDiff, Nat.zero_add, reduceIte, Bool.false_eq_true, Bool.not_true, Bool.not_false, and_self, sizeM_eq, ev, List.length_map, show (rowsE 3).length = 8 from rfl]
      have : i = 0 ∨ i = 1 ∨ i = 2 := by omega
      rcases this with rfl | rfl | rfl <;> rfl
    · have cl := hv.tup
      have ta := lawtable_ok T n f a (by omega) (cl a (by simp)) hx.1 S
      have tb' := lawtable_ok T n f b (by omega) (cl b (by simp)) hx.2.1 S
      have tc := lawtable_ok T n f c (by omega) (cl c (by simp)) hx.2.2 S
      have hA := tbl_row T n a hx.1
      have hB := tbl_row T n b hx.2.1
      have hC := tbl_row T n c hx.2.2
      have lc : mLcGo (gNm 3) mTrue (mCall 2 (m__law_term_table f) [] (mCons (mVar 0) (mCons (mVar 3) mNil))) [.val (rowP tb), .val (.tup [a, b, c]), .none, .none, .none, .none] [a, b, c] S = .ok [rowP (tbl tb a), rowP (tbl tb b), rowP (tbl tb c)] S := by
        simp only [mLcGo, ev_bind, ev_nox, ev_seq, ev_set, ev_setOwn, ev_share, ev_drop, ev_ret, ev_retOwn, ev_skip, ev_brk, ev_cnt, ev_ifS, ev_frzS, ev_append, ev_setIx, ev_for, ev_lc, ev_seqOf, ev_range, ev_var, ev_c, ev_op, ev_un, ev_args, ev_nil, ev_cons, ev_frz, ev_b, ev_and, ev_or, ev_not, ev_andV, ev_orV, ev_notV, ev_if, ev_chain, ev_isi, ev_ixOwn, ev_lenOwn, ev_call, ev_callK, ev_sl, ev_part, ev_true, ev_nm, ev_toB, frz, frzAt, toSeq_tup, toSeq_lst, toSeq_cl, toRet, mWipe, kbG, Mir.gTup, Mir.gLst, List.getElem?_cons_zero, List.getElem?_cons_succ, List.set_cons_zero, List.set_cons_succ, List.length_cons, List.length_nil, List.append_nil, List.nil_append, List.cons_append, Nat.reduceAdd, Nat.reduceLeDiff, Nat.reduceEqDiff, Nat.zero_add, reduceIte, Bool.false_eq_true, Bool.not_true, Bool.not_false, and_self, sizeM_eq, ta, tb', tc]
      have lc2 := lc_map (g := gNm 4) (t := mTrue) (a := mOp gIx (mVar 0) (mCall 1 m__law_place [] (mCons (mFrz (mLc (mSeqOf (mVar 2)) (gNm 3) mTrue (mOp gIx (mVar 3) (mVar 4)) [3])) mNil))) (ρ := [.val (rowP tb), .val (.tup [a, b, c]), .val (.lst [rowP (tbl tb a), rowP (tbl tb b), rowP (tbl tb c)]), .none, .none, .none]) (xs := rng 8) (S := S)
        (fun y => match y with | .int j => .int (tb.getD (4 * (tbl tb a).getD j.toNat 0 + 2 * (tbl tb b).getD j.toNat 0 + (tbl tb c).getD j.toNat 0).toNat 0) | y => y) fun y hy => by
          obtain ⟨j, hj, rfl⟩ := List.mem_map.mp hy
          have hj : j < 8 := by simpa using hj
          refine ⟨_, rfl, rfl, ?_⟩
          have a1 := atI_row (r := tbl tb a) (j := j) (by rw [hA.len]; exact hj)
          have b1 := atI_row (r := tbl tb b) (j := j) (by rw [hB.len]; exact hj)
          have c1 := atI_row (r := tbl tb c) (j := j) (by rw [hC.len]; exact hj)
          have ba := bit_at hA.bits j
          have bb := bit_at hB.bits j
          have bc := bit_at hC.bits j
          have e := atI_rowI (r := tb) (e := 4 * (tbl tb a).getD j 0 + 2 * (tbl tb b).getD j 0 + (tbl tb c).getD j 0) (by omega) (by rw [T.len]; omega)
          have nm : numOf [(tbl tb a).getD j 0, (tbl tb b).getD j 0, (tbl tb c).getD j 0] = 4 * (tbl tb a).getD j 0 + 2 * (tbl tb b).getD j 0 + (tbl tb c).getD j 0 := by
            simp only [numOf, List.foldl_cons, List.foldl_nil]
            omega
          have lc3 : mLcGo (gNm 3) mTrue (mOp gIx (mVar 3) (mVar 4)) [.val (rowP tb), .val (.tup [a, b, c]), .val (.lst [rowP (tbl tb a), rowP (tbl tb b), rowP (tbl tb c)]), .none, .val (.int j), .none] [rowP (tbl tb a), rowP (tbl tb b), rowP (tbl tb c)] S = .ok ([(tbl tb a).getD j 0, (tbl tb b).getD j 0, (tbl tb c).getD j 0].map PV.int) S := by
            simp only [mLcGo, ev_bind, ev_nox, ev_seq, ev_set, ev_setOwn, ev_share, ev_drop, ev_ret, ev_retOwn, ev_skip, ev_brk, ev_cnt, ev_ifS, ev_frzS, ev_append, ev_setIx, ev_for, ev_lc, ev_seqOf, ev_range, ev_var, ev_c, ev_op, ev_un, ev_args, ev_nil, ev_cons, ev_frz, ev_b, ev_and, ev_or, ev_not, ev_andV, ev_orV, ev_notV, ev_if, ev_chain, ev_isi, ev_ixOwn, ev_lenOwn, ev_call, ev_callK, ev_sl, ev_part, ev_true, ev_nm, ev_toB, frz, frzAt, toSeq_tup, toSeq_lst, toSeq_cl, toRet, mWipe, kbG, Mir.gTup, Mir.gLst, List.getElem?_cons_zero, List.getElem?_cons_succ, List.set_cons_zero, List.set_cons_succ, List.length_cons, List.length_nil, List.append_nil, List.nil_append, List.cons_append, Nat.reduceAdd, Nat.reduceLeDiff, Nat.reduceEqDiff, Nat.zero_add, reduceIte, Bool.false_eq_true, Bool.not_true, Bool.not_false, and_self, sizeM_eq, rowP, gIx, a1, b1, c1, List.map_cons, List.map_nil]
          rw [d_place]
          simp only [ev_bind, ev_nox, ev_seq, ev_set, ev_setOwn, ev_share, ev_drop, ev_ret, ev_retOwn, ev_skip, ev_brk, ev_cnt, ev_ifS, ev_frzS, ev_append, ev_setIx, ev_for, ev_lc, ev_seqOf, ev_range, ev_var, ev_c, ev_op, ev_un, ev_args, ev_nil, ev_cons, ev_frz, ev_b, ev_and, ev_or, ev_not, ev_andV, ev_orV, ev_notV, ev_if, ev_chain, ev_isi, ev_ixOwn, ev_lenOwn, ev_call, ev_callK, ev_sl, ev_part, ev_true, ev_nm, ev_toB, frz, frzAt, toSeq_tup, toSeq_lst, toSeq_cl, toRet, mWipe, kbG, Mir.gTup, Mir.gLst, List.getElem?_cons_zero, List.getElem?_cons_succ, List.set_cons_zero, List.set_cons_succ, List.length_cons, List.length_nil, List.append_nil, List.nil_append, List.cons_append, Nat.reduceAdd, Nat.reduceLeDiff, Nat.reduceEqDiff, Nat.zero_add, reduceIte, Bool.false_eq_true, Bool.not_true, Bool.not_false, and_self, sizeM_eq, lc3, place_ok (x := .lst ([(tbl tb a).getD j 0, (tbl tb b).getD j 0, (tbl tb c).getD j 0].map PV.int)) (r := [(tbl tb a).getD j 0, (tbl tb b).getD j 0, (tbl tb c).getD j 0]) (S := S) rfl, nm, Int.toNat_natCast]
          simp only [rowP, gIx, e]
      have r8 : range62 8 = true := by decide
      unfold rng at lc2
      simp only [isIntP, ev_bind, ev_nox, ev_seq, ev_set, ev_setOwn, ev_share, ev_drop, ev_ret, ev_retOwn, ev_skip, ev_brk, ev_cnt, ev_ifS, ev_frzS, ev_append, ev_setIx, ev_for, ev_lc, ev_seqOf, ev_range, ev_var, ev_c, ev_op, ev_un, ev_args, ev_nil, ev_cons, ev_frz, ev_b, ev_and, ev_or, ev_not, ev_andV, ev_orV, ev_notV, ev_if, ev_chain, ev_isi, ev_ixOwn, ev_lenOwn, ev_call, ev_callK, ev_sl, ev_part, ev_true, ev_nm, ev_toB, frz, frzAt, toSeq_tup, toSeq_lst, toSeq_cl, toRet, mWipe, kbG, Mir.gTup, Mir.gLst, List.getElem?_cons_zero, List.getElem?_cons_succ, List.set_cons_zero, List.set_cons_succ, List.length_cons, List.length_nil, List.append_nil, List.nil_append, List.cons_append, Nat.reduceAdd, Nat.reduceLeDiff, Nat.reduceEqDiff, Nat.zero_add, reduceIte, Bool.false_eq_true, Bool.not_true, Bool.not_false, and_self, sizeM_eq, lc, gRange1, r8, show (8 : Int).toNat = 8 from rfl, List.length_map, List.length_range, lc2, gTuple, List.map_map, tbl]
      unfold rowP mix
      rw [List.map_map]
      rfl
end K07
set_option maxHeartbeats 4000000
namespace K07
open PySem L2 Mir
def isBitP : PV → Bool
  | .int i => decide (0 ≤ i) && decide (i ≤ 1)
  | _ => false
def isTab : PV → Bool
  | .tup xs => decide (xs.length = 8) && xs.all isBitP
  | _ => false
theorem isbit_ok {v : PV} (h : NoObj v) (S : Store) : m_is_bit [v] S = .ok (.bl (isBitP v)) S := by
  show (b_is_bit [.val v] S).bind toRet = _
  unfold b_is_bit
  simp only [ev_bind, ev_nox, ev_seq, ev_set, ev_setOwn, ev_share, ev_drop, ev_ret, ev_retOwn, ev_skip, ev_brk, ev_cnt, ev_ifS, ev_frzS, ev_append, ev_setIx, ev_for, ev_lc, ev_seqOf, ev_range, ev_var, ev_c, ev_op, ev_un, ev_args, ev_nil, ev_cons, ev_frz, ev_b, ev_and, ev_or, ev_not, ev_andV, ev_orV, ev_notV, ev_if, ev_chain, ev_isi, ev_ixOwn, ev_lenOwn, ev_call, ev_callK, ev_sl, ev_part, ev_true, ev_nm, ev_toB, frz, frzAt, toSeq_tup, toSeq_lst, toSeq_cl, toRet, mWipe, kbG, Mir.gTup, Mir.gLst, List.getElem?_cons_zero, List.getElem?_cons_succ, List.set_cons_zero, List.set_cons_succ, List.length_cons, List.length_nil, List.append_nil, List.nil_append, List.cons_append, Nat.reduceAdd, Nat.reduceLeDiff, Nat.reduceEqDiff, Nat.zero_add, reduceIte, Bool.false_eq_true, Bool.not_true, Bool.not_false, and_self, sizeM_eq, isi_int h, isi_bool h]
  cases v <;> simp only [isIntP, isBoolP, isBitP, ev_bind, ev_nox, ev_seq, ev_set, ev_setOwn, ev_share, ev_drop, ev_ret, ev_retOwn, ev_skip, ev_brk, ev_cnt, ev_ifS, ev_frzS, ev_append, ev_setIx, ev_for, ev_lc, ev_seqOf, ev_range, ev_var, ev_c, ev_op, ev_un, ev_args, ev_nil, ev_cons, ev_frz, ev_b, ev_and, ev_or, ev_not, ev_andV, ev_orV, ev_notV, ev_if, ev_chain, ev_isi, ev_ixOwn, ev_lenOwn, ev_call, ev_callK, ev_sl, ev_part, ev_true, ev_nm, ev_toB, frz, frzAt, toSeq_tup, toSeq_lst, toSeq_cl, toRet, mWipe, kbG, Mir.gTup, Mir.gLst, List.getElem?_cons_zero, List.getElem?_cons_succ, List.set_cons_zero, List.set_cons_succ, List.length_cons, List.length_nil, List.append_nil, List.nil_append, List.cons_append, Nat.reduceAdd, Nat.reduceLeDiff, Nat.reduceEqDiff, Nat.zero_add, reduceIte, Bool.false_eq_true, Bool.not_true, Bool.not_false, and_self, sizeM_eq, gAddA, gAdd, gMulA, gMul, Mir.gSub, gFdiv, gMod, gLt, gLe, gGt, gGe, gLen, gInt, gAbs, gNeg]
  · rename_i i
    by_cases h0 : (0 : Int) ≤ i
    · simp only [h0, decide_true, ev_bind, ev_nox, ev_seq, ev_set, ev_setOwn, ev_share, ev_drop, ev_ret, ev_retOwn, ev_skip, ev_brk, ev_cnt, ev_ifS, ev_frzS, ev_append, ev_setIx, ev_for, ev_lc, ev_seqOf, ev_range, ev_var, ev_c, ev_op, ev_un, ev_args, ev_nil, ev_cons, ev_frz, ev_b, ev_and, ev_or, ev_not, ev_andV, ev_orV, ev_notV, ev_if, ev_chain, ev_isi, ev_ixOwn, ev_lenOwn, ev_call, ev_callK, ev_sl, ev_part, ev_true, ev_nm, ev_toB, frz, frzAt, toSeq_tup, toSeq_lst, toSeq_cl, toRet, mWipe, kbG, Mir.gTup, Mir.gLst, List.getElem?_cons_zero, List.getElem?_cons_succ, List.set_cons_zero, List.set_cons_succ, List.length_cons, List.length_nil, List.append_nil, List.nil_append, List.cons_append, Nat.reduceAdd, Nat.reduceLeDiff, Nat.reduceEqDiff, Nat.zero_add, reduceIte, Bool.false_eq_true, Bool.not_true, Bool.not_false, and_self, sizeM_eq, Bool.true_and]
    · simp only [h0, decide_false, ev_bind, ev_nox, ev_seq, ev_set, ev_setOwn, ev_share, ev_drop, ev_ret, ev_retOwn, ev_skip, ev_brk, ev_cnt, ev_ifS, ev_frzS, ev_append, ev_setIx, ev_for, ev_lc, ev_seqOf, ev_range, ev_var, ev_c, ev_op, ev_un, ev_args, ev_nil, ev_cons, ev_frz, ev_b, ev_and, ev_or, ev_not, ev_andV, ev_orV, ev_notV, ev_if, ev_chain, ev_isi, ev_ixOwn, ev_lenOwn, ev_call, ev_callK, ev_sl, ev_part, ev_true, ev_nm, ev_toB, frz, frzAt, toSeq_tup, toSeq_lst, toSeq_cl, toRet, mWipe, kbG, Mir.gTup, Mir.gLst, List.getElem?_cons_zero, List.getElem?_cons_succ, List.set_cons_zero, List.set_cons_succ, List.length_cons, List.length_nil, List.append_nil, List.nil_append, List.cons_append, Nat.reduceAdd, Nat.reduceLeDiff, Nat.reduceEqDiff, Nat.zero_add, reduceIte, Bool.false_eq_true, Bool.not_true, Bool.not_false, and_self, sizeM_eq, Bool.false_and]
theorem istable_ok {v : PV} (h : Clean v) (S : Store) : m_is_table [v, .int 3] S = .ok (.bl (isTab v)) S := by
  show (b_is_table [.val v, .val (.int 3), .none] S).bind toRet = _
  unfold b_is_table
  have sz : gIx c_SIZES (.int 3) S = .ok (.int 8) S := rfl
  cases v with
  | obj k => exact absurd rfl (h.no k)
  | tup xs =>
    simp only [ev_bind, ev_nox, ev_seq, ev_set, ev_setOwn, ev_share, ev_drop, ev_ret, ev_retOwn, ev_skip, ev_brk, ev_cnt, ev_ifS, ev_frzS, ev_append, ev_setIx, ev_for, ev_lc, ev_seqOf, ev_range, ev_var, ev_c, ev_op, ev_un, ev_args, ev_nil, ev_cons, ev_frz, ev_b, ev_and, ev_or, ev_not, ev_andV, ev_orV, ev_notV, ev_if, ev_chain, ev_isi, ev_ixOwn, ev_lenOwn, ev_call, ev_callK, ev_sl, ev_part, ev_true, ev_nm, ev_toB, frz, frzAt, toSeq_tup, toSeq_lst, toSeq_cl, toRet, mWipe, kbG, Mir.gTup, Mir.gLst, List.getElem?_cons_zero, List.getElem?_cons_succ, List.set_cons_zero, List.set_cons_succ, List.length_cons, List.length_nil, List.append_nil, List.nil_append, List.cons_append, Nat.reduceAdd, Nat.reduceLeDiff, Nat.reduceEqDiff, Nat.zero_add, reduceIte, Bool.false_eq_true, Bool.not_true, Bool.not_false, and_self, sizeM_eq, isi_tuple h.no, isTupP, gAddA, gAdd, gMulA, gMul, Mir.gSub, gFdiv, gMod, gLt, gLe, gGt, gGe, gLen, gInt, gAbs, gNeg, sz, neD_int]
    by_cases hl : xs.length = 8
    · have e1 : decide ((xs.length : Int) = 8) = true := decide_eq_true (by omega)
      simp only [e1, ev_bind, ev_nox, ev_seq, ev_set, ev_setOwn, ev_share, ev_drop, ev_ret, ev_retOwn, ev_skip, ev_brk, ev_cnt, ev_ifS, ev_frzS, ev_append, ev_setIx, ev_for, ev_lc, ev_seqOf, ev_range, ev_var, ev_c, ev_op, ev_un, ev_args, ev_nil, ev_cons, ev_frz, ev_b, ev_and, ev_or, ev_not, ev_andV, ev_orV, ev_notV, ev_if, ev_chain, ev_isi, ev_ixOwn, ev_lenOwn, ev_call, ev_callK, ev_sl, ev_part, ev_true, ev_nm, ev_toB, frz, frzAt, toSeq_tup, toSeq_lst, toSeq_cl, toRet, mWipe, kbG, Mir.gTup, Mir.gLst, List.getElem?_cons_zero, List.getElem?_cons_succ, List.set_cons_zero, List.set_cons_succ, List.length_cons, List.length_nil, List.append_nil, List.nil_append, List.cons_append, Nat.reduceAdd, Nat.reduceLeDiff, Nat.reduceEqDiff, Nat.zero_add, reduceIte, Bool.false_eq_true, Bool.not_true, Bool.not_false, and_self, sizeM_eq]
      have cl := h.tup
      have lp := for_ret (g := gNm 2) (b := mIfS (mNot (mB (mCall 1 m_is_bit [] (mCons (mVar 2) mNil)))) (mRet (mC (.bl false))) mSkip) (xs := xs)
        (fun pre ρ S' => S' = S ∧ (∃ s, ρ = [.val (.tup xs), .val (.int 3), s]) ∧ pre.all isBitP = true) (fun v S' => v = .bl false ∧ S' = S ∧ xs.all isBitP = false) (by
          rintro pre x post ρ S' ex ⟨rfl, ⟨s, rfl⟩, hp⟩
          have hx : NoObj x := (cl x (by rw [ex]; simp)).no
          cases hb : isBitP x with
          | true =>
            refine .inl ⟨_, S', .inl ?_, rfl, ⟨.val x, rfl⟩, by rw [List.all_append, hp, List.all_cons, hb]; rfl⟩
            simp only [ev_bind, ev_nox, ev_seq, ev_set, ev_setOwn, ev_share, ev_drop, ev_ret, ev_retOwn, ev_skip, ev_brk, ev_cnt, ev_ifS, ev_frzS, ev_append, ev_setIx, ev_for, ev_lc, ev_seqOf, ev_range, ev_var, ev_c, ev_op, ev_un, ev_args, ev_nil, ev_cons, ev_frz, ev_b, ev_and, ev_or, ev_not, ev_andV, ev_orV, ev_notV, ev_if, ev_chain, ev_isi, ev_ixOwn, ev_lenOwn, ev_call, ev_callK, ev_sl, ev_part, ev_true, ev_nm, ev_toB, frz, frzAt, toSeq_tup, toSeq_lst, toSeq_cl, toRet, mWipe, kbG, Mir.gTup, Mir.gLst, List.getElem?_cons_zero, List.getElem?_cons_succ, List.set_cons_zero, List.set_cons_succ, List.length_cons, List.length_nil, List.append_nil, List.nil_append, List.cons_append, Nat.reduceAdd, Nat.reduceLeDiff, Nat.reduceEqDiff, Nat.zero_add, reduceIte, Bool.false_eq_true, Bool.not_true, Bool.not_false, and_self, sizeM_eq, isbit_ok hx, hb]
          | false =>
            refine .inr ⟨_, S', ?_, rfl, rfl, by rw [ex, List.all_append, hp, List.all_cons, hb]; rfl⟩
            simp only [ev_bind, ev_nox, ev_seq, ev_set, ev_setOwn, ev_share, ev_drop, ev_ret, ev_retOwn, ev_skip, ev_brk, ev_cnt, ev_ifS, ev_frzS, ev_append, ev_setIx, ev_for, ev_lc, ev_seqOf, ev_range, ev_var, ev_c, ev_op, ev_un, ev_args, ev_nil, ev_cons, ev_frz, ev_b, ev_and, ev_or, ev_not, ev_andV, ev_orV, ev_notV, ev_if, ev_chain, ev_isi, ev_ixOwn, ev_lenOwn, ev_call, ev_callK, ev_sl, ev_part, ev_true, ev_nm, ev_toB, frz, frzAt, toSeq_tup, toSeq_lst, toSeq_cl, toRet, mWipe, kbG, Mir.gTup, Mir.gLst, List.getElem?_cons_zero, List.getElem?_cons_succ, List.set_cons_zero, List.set_cons_succ, List.length_cons, List.length_nil, List.append_nil, List.nil_append, List.cons_append, Nat.reduceAdd, Nat.reduceLeDiff, Nat.reduceEqDiff, Nat.zero_add, reduceIte, Bool.false_eq_true, Bool.not_true, Bool.not_false, and_self, sizeM_eq, isbit_ok hx, hb]) [.val (.tup xs), .val (.int 3), .none] S ⟨rfl, ⟨_, rfl⟩, rfl⟩
      rcases lp with ⟨ρ', S', e, rfl, ⟨s, rfl⟩, ha⟩ | ⟨v, S', e, rfl, rfl, ha⟩
      · simp only [e, ev_bind, ev_nox, ev_seq, ev_set, ev_setOwn, ev_share, ev_drop, ev_ret, ev_retOwn, ev_skip, ev_brk, ev_cnt, ev_ifS, ev_frzS, ev_append, ev_setIx, ev_for, ev_lc, ev_seqOf, ev_range, ev_var, ev_c, ev_op, ev_un, ev_args, ev_nil, ev_cons, ev_frz, ev_b, ev_and, ev_or, ev_not, ev_andV, ev_orV, ev_notV, ev_if, ev_chain, ev_isi, ev_ixOwn, ev_lenOwn, ev_call, ev_callK, ev_sl, ev_part, ev_true, ev_nm, ev_toB, frz, frzAt, toSeq_tup, toSeq_lst, toSeq_cl, toRet, mWipe, kbG, Mir.gTup, Mir.gLst, List.getElem?_cons_zero, List.getElem?_cons_succ, List.set_cons_zero, List.set_cons_succ, List.length_cons, List.length_nil, List.append_nil, List.nil_append, List.cons_append, Nat.reduceAdd, Nat.reduceLeDiff, Nat.reduceEqDiff, Nat.zero_add, reduceIte, Bool.false_eq_true, Bool.not_true, Bool.not_false, and_self, sizeM_eq, isTab, hl, decide_true, ha, Bool.true_and]
      · simp only [e, ev_bind, ev_nox, ev_seq, ev_set, ev_setOwn, ev_share, ev_drop, ev_ret, ev_retOwn, ev_skip, ev_brk, ev_cnt, ev_ifS, ev_frzS, ev_append, ev_setIx, ev_for, ev_lc, ev_seqOf, ev_range, ev_var, ev_c, ev_op, ev_un, ev_args, ev_nil, ev_cons, ev_frz, ev_b, ev_and, ev_or, ev_not, ev_andV, ev_orV, ev_notV, ev_if, ev_chain, ev_isi, ev_ixOwn, ev_lenOwn, ev_call, ev_callK, ev_sl, ev_part, ev_true, ev_nm, ev_toB, frz, frzAt, toSeq_tup, toSeq_lst, toSeq_cl, toRet, mWipe, kbG, Mir.gTup, Mir.gLst, List.getElem?_cons_zero, List.getElem?_cons_succ, List.set_cons_zero, List.set_cons_succ, List.length_cons, List.length_nil, List.append_nil, List.nil_append, List.cons_append, Nat.reduceAdd, Nat.reduceLeDiff, Nat.reduceEqDiff, Nat.zero_add, reduceIte, Bool.false_eq_true, Bool.not_true, Bool.not_false, and_self, sizeM_eq, isTab, hl, decide_true, ha, Bool.true_and]
    · have e1 : decide ((xs.length : Int) = 8) = false := decide_eq_false (by omega)
      simp only [e1, ev_bind, ev_nox, ev_seq, ev_set, ev_setOwn, ev_share, ev_drop, ev_ret, ev_retOwn, ev_skip, ev_brk, ev_cnt, ev_ifS, ev_frzS, ev_append, ev_setIx, ev_for, ev_lc, ev_seqOf, ev_range, ev_var, ev_c, ev_op, ev_un, ev_args, ev_nil, ev_cons, ev_frz, ev_b, ev_and, ev_or, ev_not, ev_andV, ev_orV, ev_notV, ev_if, ev_chain, ev_isi, ev_ixOwn, ev_lenOwn, ev_call, ev_callK, ev_sl, ev_part, ev_true, ev_nm, ev_toB, frz, frzAt, toSeq_tup, toSeq_lst, toSeq_cl, toRet, mWipe, kbG, Mir.gTup, Mir.gLst, List.getElem?_cons_zero, List.getElem?_cons_succ, List.set_cons_zero, List.set_cons_succ, List.length_cons, List.length_nil, List.append_nil, List.nil_append, List.cons_append, Nat.reduceAdd, Nat.reduceLeDiff, Nat.reduceEqDiff, Nat.zero_add, reduceIte, Bool.false_eq_true, Bool.not_true, Bool.not_false, and_self, sizeM_eq, isTab, hl, decide_false, Bool.false_and]
  | non => simp only [ev_bind, ev_nox, ev_seq, ev_set, ev_setOwn, ev_share, ev_drop, ev_ret, ev_retOwn, ev_skip, ev_brk, ev_cnt, ev_ifS, ev_frzS, ev_append, ev_setIx, ev_for, ev_lc, ev_seqOf, ev_range, ev_var, ev_c, ev_op, ev_un, ev_args, ev_nil, ev_cons, ev_frz, ev_b, ev_and, ev_or, ev_not, ev_andV, ev_orV, ev_notV, ev_if, ev_chain, ev_isi, ev_ixOwn, ev_lenOwn, ev_call, ev_callK, ev_sl, ev_part, ev_true, ev_nm, ev_toB, frz, frzAt, toSeq_tup, toSeq_lst, toSeq_cl, toRet, mWipe, kbG, Mir.gTup, Mir.gLst, List.getElem?_cons_zero, List.getElem?_cons_succ, List.set_cons_zero, List.set_cons_succ, List.length_cons, List.length_nil, List.append_nil, List.nil_append, List.cons_append, Nat.reduceAdd, Nat.reduceLeDiff, Nat.reduceEqDiff, Nat.zero_add, reduceIte, Bool.false_eq_true, Bool.not_true, Bool.not_false, and_self, sizeM_eq, isi_tuple h.no, isTupP]; rfl
  | bl _ => simp only [ev_bind, ev_nox, ev_seq, ev_set, ev_setOwn, ev_share, ev_drop, ev_ret, ev_retOwn, ev_skip, ev_brk, ev_cnt, ev_ifS, ev_frzS, ev_append, ev_setIx, ev_for, ev_lc, ev_seqOf, ev_range, ev_var, ev_c, ev_op, ev_un, ev_args, ev_nil, ev_cons, ev_frz, ev_b, ev_and, ev_or, ev_not, ev_andV, ev_orV, ev_notV, ev_if, ev_chain, ev_isi, ev_ixOwn, ev_lenOwn, ev_call, ev_callK, ev_sl, ev_part, ev_true, ev_nm, ev_toB, frz, frzAt, toSeq_tup, toSeq_lst, toSeq_cl, toRet, mWipe, kbG, Mir.gTup, Mir.gLst, List.getElem?_cons_zero, List.getElem?_cons_succ, List.set_cons_zero, List.set_cons_succ, List.length_cons, List.length_nil, List.append_nil, List.nil_append, List.cons_append, Nat.reduceAdd, Nat.reduceLeDiff, Nat.reduceEqDiff, Nat.zero_add, reduceIte, Bool.false_eq_true, Bool.not_true, Bool.not_false, and_self, sizeM_eq, isi_tuple h.no, isTupP]; rfl
  | int _ => simp only [ev_bind, ev_nox, ev_seq, ev_set, ev_setOwn, ev_share, ev_drop, ev_ret, ev_retOwn, ev_skip, ev_brk, ev_cnt, ev_ifS, ev_frzS, ev_append, ev_setIx, ev_for, ev_lc, ev_seqOf, ev_range, ev_var, ev_c, ev_op, ev_un, ev_args, ev_nil, ev_cons, ev_frz, ev_b, ev_and, ev_or, ev_not, ev_andV, ev_orV, ev_notV, ev_if, ev_chain, ev_isi, ev_ixOwn, ev_lenOwn, ev_call, ev_callK, ev_sl, ev_part, ev_true, ev_nm, ev_toB, frz, frzAt, toSeq_tup, toSeq_lst, toSeq_cl, toRet, mWipe, kbG, Mir.gTup, Mir.gLst, List.getElem?_cons_zero, List.getElem?_cons_succ, List.set_cons_zero, List.set_cons_succ, List.length_cons, List.length_nil, List.append_nil, List.nil_append, List.cons_append, Nat.reduceAdd, Nat.reduceLeDiff, Nat.reduceEqDiff, Nat.zero_add, reduceIte, Bool.false_eq_true, Bool.not_true, Bool.not_false, and_self, sizeM_eq, isi_tuple h.no, isTupP]; rfl
  | str _ => simp only [ev_bind, ev_nox, ev_seq, ev_set, ev_setOwn, ev_share, ev_drop, ev_ret, ev_retOwn, ev_skip, ev_brk, ev_cnt, ev_ifS, ev_frzS, ev_append, ev_setIx, ev_for, ev_lc, ev_seqOf, ev_range, ev_var, ev_c, ev_op, ev_un, ev_args, ev_nil, ev_cons, ev_frz, ev_b, ev_and, ev_or, ev_not, ev_andV, ev_orV, ev_notV, ev_if, ev_chain, ev_isi, ev_ixOwn, ev_lenOwn, ev_call, ev_callK, ev_sl, ev_part, ev_true, ev_nm, ev_toB, frz, frzAt, toSeq_tup, toSeq_lst, toSeq_cl, toRet, mWipe, kbG, Mir.gTup, Mir.gLst, List.getElem?_cons_zero, List.getElem?_cons_succ, List.set_cons_zero, List.set_cons_succ, List.length_cons, List.length_nil, List.append_nil, List.nil_append, List.cons_append, Nat.reduceAdd, Nat.reduceLeDiff, Nat.reduceEqDiff, Nat.zero_add, reduceIte, Bool.false_eq_true, Bool.not_true, Bool.not_false, and_self, sizeM_eq, isi_tuple h.no, isTupP]; rfl
  | lst _ => simp only [ev_bind, ev_nox, ev_seq, ev_set, ev_setOwn, ev_share, ev_drop, ev_ret, ev_retOwn, ev_skip, ev_brk, ev_cnt, ev_ifS, ev_frzS, ev_append, ev_setIx, ev_for, ev_lc, ev_seqOf, ev_range, ev_var, ev_c, ev_op, ev_un, ev_args, ev_nil, ev_cons, ev_frz, ev_b, ev_and, ev_or, ev_not, ev_andV, ev_orV, ev_notV, ev_if, ev_chain, ev_isi, ev_ixOwn, ev_lenOwn, ev_call, ev_callK, ev_sl, ev_part, ev_true, ev_nm, ev_toB, frz, frzAt, toSeq_tup, toSeq_lst, toSeq_cl, toRet, mWipe, kbG, Mir.gTup, Mir.gLst, List.getElem?_cons_zero, List.getElem?_cons_succ, List.set_cons_zero, List.set_cons_succ, List.length_cons, List.length_nil, List.append_nil, List.nil_append, List.cons_append, Nat.reduceAdd, Nat.reduceLeDiff, Nat.reduceEqDiff, Nat.zero_add, reduceIte, Bool.false_eq_true, Bool.not_true, Bool.not_false, and_self, sizeM_eq, isi_tuple h.no, isTupP]; rfl
  | cl _ => simp only [ev_bind, ev_nox, ev_seq, ev_set, ev_setOwn, ev_share, ev_drop, ev_ret, ev_retOwn, ev_skip, ev_brk, ev_cnt, ev_ifS, ev_frzS, ev_append, ev_setIx, ev_for, ev_lc, ev_seqOf, ev_range, ev_var, ev_c, ev_op, ev_un, ev_args, ev_nil, ev_cons, ev_frz, ev_b, ev_and, ev_or, ev_not, ev_andV, ev_orV, ev_notV, ev_if, ev_chain, ev_isi, ev_ixOwn, ev_lenOwn, ev_call, ev_callK, ev_sl, ev_part, ev_true, ev_nm, ev_toB, frz, frzAt, toSeq_tup, toSeq_lst, toSeq_cl, toRet, mWipe, kbG, Mir.gTup, Mir.gLst, List.getElem?_cons_zero, List.getElem?_cons_succ, List.set_cons_zero, List.set_cons_succ, List.length_cons, List.length_nil, List.append_nil, List.nil_append, List.cons_append, Nat.reduceAdd, Nat.reduceLeDiff, Nat.reduceEqDiff, Nat.zero_add, reduceIte, Bool.false_eq_true, Bool.not_true, Bool.not_false, and_self, sizeM_eq, isi_tuple h.no, isTupP]; rfl
theorem clean_row (r : List Int) : Clean (rowP r) := by unfold Clean; rw [toD_row]; rfl
theorem tab_row {r : List Int} (T : Row8 r) : isTab (rowP r) = true := by
  unfold rowP isTab
  simp only [List.length_map, T.len, decide_true, Bool.true_and, List.all_map]
  rw [List.all_eq_true]
  intro b hb
  rcases T.bits b hb with rfl | rfl <;> rfl
/-! told -/
def toldP (r : List Int) (v : PV) : PV := if isT 12 v = true then .tup [.str "table", rowP (tbl r v)] else .tup [.str "none", .str "term", .bl true]
theorem told_eq {r : List Int} (T : Row8 r) {v : PV} (hv : Clean v) (S : Store) : m__law_told [rowP r, v] S = .ok (toldP r v) S := by
  have h1 := istable_ok (clean_row r) S
  rw [tab_row T] at h1
  have h2 : m__is_term 20 [v, c_DEEPEST] S = .ok (.bl (isT 12 v)) S := isterm_ok 12 20 v (by decide) hv S
  have tt : m_term_table [rowP r, v] S = if isT 12 v = true then .ok (rowP (tbl r v)) S else .exc "Undefined" [("what", .str "term")] S := by
    show (b_term_table [.val (rowP r), .val v] S).bind toRet = _
    unfold b_term_table
    simp only [ev_bind, ev_nox, ev_seq, ev_set, ev_setOwn, ev_share, ev_drop, ev_ret, ev_retOwn, ev_skip, ev_brk, ev_cnt, ev_ifS, ev_frzS, ev_append, ev_setIx, ev_for, ev_lc, ev_seqOf, ev_range, ev_var, ev_c, ev_op, ev_un, ev_args, ev_nil, ev_cons, ev_frz, ev_b, ev_and, ev_or, ev_not, ev_andV, ev_orV, ev_notV, ev_if, ev_chain, ev_isi, ev_ixOwn, ev_lenOwn, ev_call, ev_callK, ev_sl, ev_part, ev_true, ev_nm, ev_toB, frz, frzAt, toSeq_tup, toSeq_lst, toSeq_cl, toRet, mWipe, kbG, Mir.gTup, Mir.gLst, List.getElem?_cons_zero, List.getElem?_cons_succ, List.set_cons_zero, List.set_cons_succ, List.length_cons, List.length_nil, List.append_nil, List.nil_append, List.cons_append, Nat.reduceAdd, Nat.reduceLeDiff, Nat.reduceEqDiff, Nat.zero_add, reduceIte, Bool.false_eq_true, Bool.not_true, Bool.not_false, and_self, sizeM_eq, ev_bindExc, ev_asg, ev_unTup, ev_unLst, ev_tupM, ev_gsCons, ev_gsNil, ev_raise, ev_tryL, ev_tryOk, ev_tryExc, ev_kin, ev_kget, ev_index, eqD_int, neD_int, h1, h2]
    cases ht : isT 12 v with
    | true => simp only [ev_bind, ev_nox, ev_seq, ev_set, ev_setOwn, ev_share, ev_drop, ev_ret, ev_retOwn, ev_skip, ev_brk, ev_cnt, ev_ifS, ev_frzS, ev_append, ev_setIx, ev_for, ev_lc, ev_seqOf, ev_range, ev_var, ev_c, ev_op, ev_un, ev_args, ev_nil, ev_cons, ev_frz, ev_b, ev_and, ev_or, ev_not, ev_andV, ev_orV, ev_notV, ev_if, ev_chain, ev_isi, ev_ixOwn, ev_lenOwn, ev_call, ev_callK, ev_sl, ev_part, ev_true, ev_nm, ev_toB, frz, frzAt, toSeq_tup, toSeq_lst, toSeq_cl, toRet, mWipe, kbG, Mir.gTup, Mir.gLst, List.getElem?_cons_zero, List.getElem?_cons_succ, List.set_cons_zero, List.set_cons_succ, List.length_cons, List.length_nil, List.append_nil, List.nil_append, List.cons_append, Nat.reduceAdd, Nat.reduceLeDiff, Nat.reduceEqDiff, Nat.zero_add, reduceIte, Bool.false_eq_true, Bool.not_true, Bool.not_false, and_self, sizeM_eq, told_ok T 12 20 v (by decide) hv ht S]
    | false => simp only [ev_bind, ev_nox, ev_seq, ev_set, ev_setOwn, ev_share, ev_drop, ev_ret, ev_retOwn, ev_skip, ev_brk, ev_cnt, ev_ifS, ev_frzS, ev_append, ev_setIx, ev_for, ev_lc, ev_seqOf, ev_range, ev_var, ev_c, ev_op, ev_un, ev_args, ev_nil, ev_cons, ev_frz, ev_b, ev_and, ev_or, ev_not, ev_andV, ev_orV, ev_notV, ev_if, ev_chain, ev_isi, ev_ixOwn, ev_lenOwn, ev_call, ev_callK, ev_sl, ev_part, ev_true, ev_nm, ev_toB, frz, frzAt, toSeq_tup, toSeq_lst, toSeq_cl, toRet, mWipe, kbG, Mir.gTup, Mir.gLst, List.getElem?_cons_zero, List.getElem?_cons_succ, List.set_cons_zero, List.set_cons_succ, List.length_cons, List.length_nil, List.append_nil, List.nil_append, List.cons_append, Nat.reduceAdd, Nat.reduceLeDiff, Nat.reduceEqDiff, Nat.zero_add, reduceIte, Bool.false_eq_true, Bool.not_true, Bool.not_false, and_self, sizeM_eq, ev_bindExc, ev_asg, ev_unTup, ev_unLst, ev_tupM, ev_gsCons, ev_gsNil, ev_raise, ev_tryL, ev_tryOk, ev_tryExc, ev_kin, ev_kget, ev_index, eqD_int, neD_int]; rfl
  show (b__law_told [.val (rowP r), .val v, .none] S).bind toRet = _
  unfold b__law_told toldP
  simp only [ev_bind, ev_nox, ev_seq, ev_set, ev_setOwn, ev_share, ev_drop, ev_ret, ev_retOwn, ev_skip, ev_brk, ev_cnt, ev_ifS, ev_frzS, ev_append, ev_setIx, ev_for, ev_lc, ev_seqOf, ev_range, ev_var, ev_c, ev_op, ev_un, ev_args, ev_nil, ev_cons, ev_frz, ev_b, ev_and, ev_or, ev_not, ev_andV, ev_orV, ev_notV, ev_if, ev_chain, ev_isi, ev_ixOwn, ev_lenOwn, ev_call, ev_callK, ev_sl, ev_part, ev_true, ev_nm, ev_toB, frz, frzAt, toSeq_tup, toSeq_lst, toSeq_cl, toRet, mWipe, kbG, Mir.gTup, Mir.gLst, List.getElem?_cons_zero, List.getElem?_cons_succ, List.set_cons_zero, List.set_cons_succ, List.length_cons, List.length_nil, List.append_nil, List.nil_append, List.cons_append, Nat.reduceAdd, Nat.reduceLeDiff, Nat.reduceEqDiff, Nat.zero_add, reduceIte, Bool.false_eq_true, Bool.not_true, Bool.not_false, and_self, sizeM_eq, ev_bindExc, ev_asg, ev_unTup, ev_unLst, ev_tupM, ev_gsCons, ev_gsNil, ev_raise, ev_tryL, ev_tryOk, ev_tryExc, ev_kin, ev_kget, ev_index, eqD_int, neD_int, tt]
  cases ht : isT 12 v with
  | true => simp only [ev_bind, ev_nox, ev_seq, ev_set, ev_setOwn, ev_share, ev_drop, ev_ret, ev_retOwn, ev_skip, ev_brk, ev_cnt, ev_ifS, ev_frzS, ev_append, ev_setIx, ev_for, ev_lc, ev_seqOf, ev_range, ev_var, ev_c, ev_op, ev_un, ev_args, ev_nil, ev_cons, ev_frz, ev_b, ev_and, ev_or, ev_not, ev_andV, ev_orV, ev_notV, ev_if, ev_chain, ev_isi, ev_ixOwn, ev_lenOwn, ev_call, ev_callK, ev_sl, ev_part, ev_true, ev_nm, ev_toB, frz, frzAt, toSeq_tup, toSeq_lst, toSeq_cl, toRet, mWipe, kbG, Mir.gTup, Mir.gLst, List.getElem?_cons_zero, List.getElem?_cons_succ, List.set_cons_zero, List.set_cons_succ, List.length_cons, List.length_nil, List.append_nil, List.nil_append, List.cons_append, Nat.reduceAdd, Nat.reduceLeDiff, Nat.reduceEqDiff, Nat.zero_add, reduceIte, Bool.false_eq_true, Bool.not_true, Bool.not_false, and_self, sizeM_eq, ev_bindExc, ev_asg, ev_unTup, ev_unLst, ev_tupM, ev_gsCons, ev_gsNil, ev_raise, ev_tryL, ev_tryOk, ev_tryExc, ev_kin, ev_kget, ev_index, eqD_int, neD_int, Nat.zero_le]
  | false => simp only [ev_bind, ev_nox, ev_seq, ev_set, ev_setOwn, ev_share, ev_drop, ev_ret, ev_retOwn, ev_skip, ev_brk, ev_cnt, ev_ifS, ev_frzS, ev_append, ev_setIx, ev_for, ev_lc, ev_seqOf, ev_range, ev_var, ev_c, ev_op, ev_un, ev_args, ev_nil, ev_cons, ev_frz, ev_b, ev_and, ev_or, ev_not, ev_andV, ev_orV, ev_notV, ev_if, ev_chain, ev_isi, ev_ixOwn, ev_lenOwn, ev_call, ev_callK, ev_sl, ev_part, ev_true, ev_nm, ev_toB, frz, frzAt, toSeq_tup, toSeq_lst, toSeq_cl, toRet, mWipe, kbG, Mir.gTup, Mir.gLst, List.getElem?_cons_zero, List.getElem?_cons_succ, List.set_cons_zero, List.set_cons_succ, List.length_cons, List.length_nil, List.append_nil, List.nil_append, List.cons_append, Nat.reduceAdd, Nat.reduceLeDiff, Nat.reduceEqDiff, Nat.zero_add, reduceIte, Bool.false_eq_true, Bool.not_true, Bool.not_false, and_self, sizeM_eq, ev_bindExc, ev_asg, ev_unTup, ev_unLst, ev_tupM, ev_gsCons, ev_gsNil, ev_raise, ev_tryL, ev_tryOk, ev_tryExc, ev_kin, ev_kget, ev_index, eqD_int, neD_int]; rfl
theorem told_wrong {x v : PV} (hx : Clean x) (hn : isTab x = false) {s : Str} {S : Store} (hr : gRepr [x] S = .ok (.str s) S) : m__law_told [x, v] S = .ok (.tup [.str "wrong", .str s, .bl true]) S := by
  have h1 := istable_ok hx S
  rw [hn] at h1
  have tt : m_term_table [x, v] S = .exc "InvalidTable" [("value", x)] S := by
    show (b_term_table [.val x, .val v] S).bind toRet = _
    unfold b_term_table
    simp only [ev_bind, ev_nox, ev_seq, ev_set, ev_setOwn, ev_share, ev_drop, ev_ret, ev_retOwn, ev_skip, ev_brk, ev_cnt, ev_ifS, ev_frzS, ev_append, ev_setIx, ev_for, ev_lc, ev_seqOf, ev_range, ev_var, ev_c, ev_op, ev_un, ev_args, ev_nil, ev_cons, ev_frz, ev_b, ev_and, ev_or, ev_not, ev_andV, ev_orV, ev_notV, ev_if, ev_chain, ev_isi, ev_ixOwn, ev_lenOwn, ev_call, ev_callK, ev_sl, ev_part, ev_true, ev_nm, ev_toB, frz, frzAt, toSeq_tup, toSeq_lst, toSeq_cl, toRet, mWipe, kbG, Mir.gTup, Mir.gLst, List.getElem?_cons_zero, List.getElem?_cons_succ, List.set_cons_zero, List.set_cons_succ, List.length_cons, List.length_nil, List.append_nil, List.nil_append, List.cons_append, Nat.reduceAdd, Nat.reduceLeDiff, Nat.reduceEqDiff, Nat.zero_add, reduceIte, Bool.false_eq_true, Bool.not_true, Bool.not_false, and_self, sizeM_eq, ev_bindExc, ev_asg, ev_unTup, ev_unLst, ev_tupM, ev_gsCons, ev_gsNil, ev_raise, ev_tryL, ev_tryOk, ev_tryExc, ev_kin, ev_kget, ev_index, eqD_int, neD_int, h1]
    rfl
  show (b__law_told [.val x, .val v, .none] S).bind toRet = _
  unfold b__law_told
  simp only [ev_bind, ev_nox, ev_seq, ev_set, ev_setOwn, ev_share, ev_drop, ev_ret, ev_retOwn, ev_skip, ev_brk, ev_cnt, ev_ifS, ev_frzS, ev_append, ev_setIx, ev_for, ev_lc, ev_seqOf, ev_range, ev_var, ev_c, ev_op, ev_un, ev_args, ev_nil, ev_cons, ev_frz, ev_b, ev_and, ev_or, ev_not, ev_andV, ev_orV, ev_notV, ev_if, ev_chain, ev_isi, ev_ixOwn, ev_lenOwn, ev_call, ev_callK, ev_sl, ev_part, ev_true, ev_nm, ev_toB, frz, frzAt, toSeq_tup, toSeq_lst, toSeq_cl, toRet, mWipe, kbG, Mir.gTup, Mir.gLst, List.getElem?_cons_zero, List.getElem?_cons_succ, List.set_cons_zero, List.set_cons_succ, List.length_cons, List.length_nil, List.append_nil, List.nil_append, List.cons_append, Nat.reduceAdd, Nat.reduceLeDiff, Nat.reduceEqDiff, Nat.zero_add, reduceIte, Bool.false_eq_true, Bool.not_true, Bool.not_false, and_self, sizeM_eq, ev_bindExc, ev_asg, ev_unTup, ev_unLst, ev_tupM, ev_gsCons, ev_gsNil, ev_raise, ev_tryL, ev_tryOk, ev_tryExc, ev_kin, ev_kget, ev_index, eqD_int, neD_int, tt]
  have e : mHds 2 3 [([("InvalidTable", true), ("Undefined", false)], (mRet (mArgs Mir.gTup (mCons (mC (.str "wrong")) (mCons (mArgs gRepr (mCons (mFld 2 ["InvalidTable"] "value") mNil)) (mCons (mXis 2 [("InvalidTable", true), ("Undefined", true)]) mNil)))))), ([("InvalidTable", false), ("Undefined", true)], (mRet (mArgs Mir.gTup (mCons (mC (.str "none")) (mCons (mFld 2 ["Undefined"] "what") (mCons (mXis 2 [("InvalidTable", true), ("Undefined", true)]) mNil))))))] "InvalidTable" [("value", x)] S
    = .ok (.rt (.tup [.str "wrong", .str s, .bl true])) S := by
    have f1 : mFld 2 ["InvalidTable"] "value" ((List.replicate 3 Slot.none).set 2 (.pin "InvalidTable" [("value", x)])) S = .ok x S := rfl
    have f2 : mXis 2 [("InvalidTable", true), ("Undefined", true)] ((List.replicate 3 Slot.none).set 2 (.pin "InvalidTable" [("value", x)])) S = .ok (.bl true) S := rfl
    unfold mHds
    simp only [show (([("InvalidTable", true), ("Undefined", false)] : List (Str × Bool)).lookup "InvalidTable") = some true from rfl, ev_ret, ev_args, ev_cons, ev_c, ev_nil, ev_bind, f1, f2, hr, Mir.gTup, List.length_cons, List.length_nil, sizeM_eq, Nat.zero_add, Nat.reduceAdd, Nat.reduceLeDiff, if_true, reduceIte]
    rfl
  simp only [e, ev_bind, ev_nox, ev_seq, ev_set, ev_setOwn, ev_share, ev_drop, ev_ret, ev_retOwn, ev_skip, ev_brk, ev_cnt, ev_ifS, ev_frzS, ev_append, ev_setIx, ev_for, ev_lc, ev_seqOf, ev_range, ev_var, ev_c, ev_op, ev_un, ev_args, ev_nil, ev_cons, ev_frz, ev_b, ev_and, ev_or, ev_not, ev_andV, ev_orV, ev_notV, ev_if, ev_chain, ev_isi, ev_ixOwn, ev_lenOwn, ev_call, ev_callK, ev_sl, ev_part, ev_true, ev_nm, ev_toB, frz, frzAt, toSeq_tup, toSeq_lst, toSeq_cl, toRet, mWipe, kbG, Mir.gTup, Mir.gLst, List.getElem?_cons_zero, List.getElem?_cons_succ, List.set_cons_zero, List.set_cons_succ, List.length_cons, List.length_nil, List.append_nil, List.nil_append, List.cons_append, Nat.reduceAdd, Nat.reduceLeDiff, Nat.reduceEqDiff, Nat.zero_add, reduceIte, Bool.false_eq_true, Bool.not_true, Bool.not_false, and_self, sizeM_eq]
end K07
set_option maxHeartbeats 4000000
namespace K07
open PySem L2 Mir
/-! claims -/
def WideOk (w : Str) (W : List Int) : Prop := ∀ (r : List Int) (t : PV) (S : Store), (c_TABLES.lookup w).isSome = true ∧ (∃ p, m_table_of [.str w] S = .ok p S ∧ m_widened [p] S = .ok (rowP W) S) ∧
  ∃ p, mLcGo (gTupM 2 (gsCons (gNm 3) (gsCons (gNm 4) gsNil))) (mB (mOp (gEqD false) (mVar 3) (mOp gIx (mVar 1) (mC (.int 0))))) (mVar 4) [.val (rowP r), .val (.tup [.str w, t]), .none, .none, .none] [.tup [.str "all no", .tup [.int 0, .int 0]], .tup [.str "all yes", .tup [.int 1, .int 1]], .tup [.str "and", .tup [.int 0, .int 0, .int 0, .int 1]], .tup [.str "or", .tup [.int 0, .int 1, .int 1, .int 1]], .tup [.str "majority", .tup [.int 0, .int 0, .int 0, .int 1, .int 0, .int 1, .int 1, .int 1]], .tup [.str "odd one", .tup [.int 0, .int 1, .int 1, .int 0, .int 1, .int 0, .int 0, .int 1]]] S = .ok [p] S ∧ ∃ k, m__law_places_of [p] S = .ok k S ∧ m__law_widened [p, k] S = .ok (rowP W) S
def NoWord (w : Str) : Prop := ∀ (r : List Int) (t : PV) (S : Store), (c_TABLES.lookup w).isSome = false ∧
  mLcGo (gTupM 2 (gsCons (gNm 3) (gsCons (gNm 4) gsNil))) (mB (mOp (gEqD false) (mVar 3) (mOp gIx (mVar 1) (mC (.int 0))))) (mVar 4) [.val (rowP r), .val (.tup [.str w, t]), .none, .none, .none] [.tup [.str "all no", .tup [.int 0, .int 0]], .tup [.str "all yes", .tup [.int 1, .int 1]], .tup [.str "and", .tup [.int 0, .int 0, .int 0, .int 1]], .tup [.str "or", .tup [.int 0, .int 1, .int 1, .int 1]], .tup [.str "majority", .tup [.int 0, .int 0, .int 0, .int 1, .int 0, .int 1, .int 1, .int 1]], .tup [.str "odd one", .tup [.int 0, .int 1, .int 1, .int 0, .int 1, .int 0, .int 0, .int 1]]] S = .ok [] S
def six : List Str := ["all no", "all yes", "and", "or", "majority", "odd one"]
def sixB : List Str := ["all no ", "all yes ", "and ", "or ", "majority ", "odd one "]
theorem wide_ok : ∀ w ∈ six, ∃ W, WideOk w W :=
  (tb_cons ⟨[0, 0, 0, 0, 0, 0, 0, 0], fun r t S => ⟨by kernel_rfl, ⟨.tup [.int 0, .int 0], by kernel_rfl, by kernel_rfl⟩, .tup [.int 0, .int 0], by kernel_rfl, .int 1, by kernel_rfl, by kernel_rfl⟩⟩
  (tb_cons ⟨[1, 1, 1, 1, 1, 1, 1, 1], fun r t S => ⟨by kernel_rfl, ⟨.tup [.int 1, .int 1], by kernel_rfl, by kernel_rfl⟩, .tup [.int 1, .int 1], by kernel_rfl, .int 1, by kernel_rfl, by kernel_rfl⟩⟩
  (tb_cons ⟨[0, 0, 0, 0, 0, 0, 1, 1], fun r t S => ⟨by kernel_rfl, ⟨.tup [.int 0, .int 0, .int 0, .int 1], by kernel_rfl, by kernel_rfl⟩, .tup [.int 0, .int 0, .int 0, .int 1], by kernel_rfl, .int 2, by kernel_rfl, by kernel_rfl⟩⟩
  (tb_cons ⟨[0, 0, 1, 1, 1, 1, 1, 1], fun r t S => ⟨by kernel_rfl, ⟨.tup [.int 0, .int 1, .int 1, .int 1], by kernel_rfl, by kernel_rfl⟩, .tup [.int 0, .int 1, .int 1, .int 1], by kernel_rfl, .int 2, by kernel_rfl, by kernel_rfl⟩⟩
  (tb_cons ⟨[0, 0, 0, 1, 0, 1, 1, 1], fun r t S => ⟨by kernel_rfl, ⟨.tup [.int 0, .int 0, .int 0, .int 1, .int 0, .int 1, .int 1, .int 1], by kernel_rfl, by kernel_rfl⟩, .tup [.int 0, .int 0, .int 0, .int 1, .int 0, .int 1, .int 1, .int 1], by kernel_rfl, .int 3, by kernel_rfl, by kernel_rfl⟩⟩
  (tb_cons ⟨[0, 1, 1, 0, 1, 0, 0, 1], fun r t S => ⟨by kernel_rfl, ⟨.tup [.int 0, .int 1, .int 1, .int 0, .int 1, .int 0, .int 0, .int 1], by kernel_rfl, by kernel_rfl⟩, .tup [.int 0, .int 1, .int 1, .int 0, .int 1, .int 0, .int 0, .int 1], by kernel_rfl, .int 3, by kernel_rfl, by kernel_rfl⟩⟩
  tb_nil))))))
theorem no_word : ∀ w ∈ sixB, NoWord w :=
  (tb_cons (fun r t S => ⟨by kernel_rfl, by kernel_rfl⟩) (tb_cons (fun r t S => ⟨by kernel_rfl, by kernel_rfl⟩) (tb_cons (fun r t S => ⟨by kernel_rfl, by kernel_rfl⟩) (tb_cons (fun r t S => ⟨by kernel_rfl, by kernel_rfl⟩) (tb_cons (fun r t S => ⟨by kernel_rfl, by kernel_rfl⟩) (tb_cons (fun r t S => ⟨by kernel_rfl, by kernel_rfl⟩) tb_nil))))))
theorem claim_eq {r : List Int} (T : Row8 r) {c : PV} (hc : Clean c) (hw : ∀ w t, c = .tup [.str w, t] → w ∈ six ∨ w ∈ sixB) (S : Store) : ∃ b, m_term_holds [rowP r, c] S = .ok (.bl b) S ∧ m__law_claim_holds [rowP r, c] S = .ok (.bl b) S := by
  have no : (∀ xs, c = .tup xs → xs.length ≠ 2) → ∃ b, m_term_holds [rowP r, c] S = .ok (.bl b) S ∧ m__law_claim_holds [rowP r, c] S = .ok (.bl b) S := fun hx => by
    refine ⟨false, ?_, ?_⟩
    · show (b_term_holds [.val (rowP r), .val c, .none, .none] S).bind toRet = _
      unfold b_term_holds
      simp only [ev_bind, ev_nox, ev_seq, ev_set, ev_setOwn, ev_share, ev_drop, ev_ret, ev_retOwn, ev_skip, ev_brk, ev_cnt, ev_ifS, ev_frzS, ev_append, ev_setIx, ev_for, ev_lc, ev_seqOf, ev_range, ev_var, ev_c, ev_op, ev_un, ev_args, ev_nil, ev_cons, ev_frz, ev_b, ev_and, ev_or, ev_not, ev_andV, ev_orV, ev_notV, ev_if, ev_chain, ev_isi, ev_ixOwn, ev_lenOwn, ev_call, ev_callK, ev_sl, ev_part, ev_true, ev_nm, ev_toB, frz, frzAt, toSeq_tup, toSeq_lst, toSeq_cl, toRet, mWipe, kbG, Mir.gTup, Mir.gLst, List.getElem?_cons_zero, List.getElem?_cons_succ, List.set_cons_zero, List.set_cons_succ, List.length_cons, List.length_nil, List.append_nil, List.nil_append, List.cons_append, Nat.reduceAdd, Nat.reduceLeDiff, Nat.reduceEqDiff, Nat.zero_add, reduceIte, Bool.false_eq_true, Bool.not_true, Bool.not_false, and_self, sizeM_eq, isi_tuple hc.no]
      cases c <;> simp only [isTupP, ev_bind, ev_nox, ev_seq, ev_set, ev_setOwn, ev_share, ev_drop, ev_ret, ev_retOwn, ev_skip, ev_brk, ev_cnt, ev_ifS, ev_frzS, ev_append, ev_setIx, ev_for, ev_lc, ev_seqOf, ev_range, ev_var, ev_c, ev_op, ev_un, ev_args, ev_nil, ev_cons, ev_frz, ev_b, ev_and, ev_or, ev_not, ev_andV, ev_orV, ev_notV, ev_if, ev_chain, ev_isi, ev_ixOwn, ev_lenOwn, ev_call, ev_callK, ev_sl, ev_part, ev_true, ev_nm, ev_toB, frz, frzAt, toSeq_tup, toSeq_lst, toSeq_cl, toRet, mWipe, kbG, Mir.gTup, Mir.gLst, List.getElem?_cons_zero, List.getElem?_cons_succ, List.set_cons_zero, List.set_cons_succ, List.length_cons, List.length_nil, List.append_nil, List.nil_append, List.cons_append, Nat.reduceAdd, Nat.reduceLeDiff, Nat.reduceEqDiff, Nat.zero_add, reduceIte, Bool.false_eq_true, Bool.not_true, Bool.not_false, and_self, sizeM_eq]
      rename_i xs
      have q : decide ((xs.length : Int) = 2) = false := decide_eq_false (by have := hx xs rfl; omega)
      simp only [gAddA, gAdd, gMulA, gMul, Mir.gSub, gFdiv, gMod, gLt, gLe, gGt, gGe, gLen, gInt, gAbs, gNeg, neD_int, q, ev_bind, ev_nox, ev_seq, ev_set, ev_setOwn, ev_share, ev_drop, ev_ret, ev_retOwn, ev_skip, ev_brk, ev_cnt, ev_ifS, ev_frzS, ev_append, ev_setIx, ev_for, ev_lc, ev_seqOf, ev_range, ev_var, ev_c, ev_op, ev_un, ev_args, ev_nil, ev_cons, ev_frz, ev_b, ev_and, ev_or, ev_not, ev_andV, ev_orV, ev_notV, ev_if, ev_chain, ev_isi, ev_ixOwn, ev_lenOwn, ev_call, ev_callK, ev_sl, ev_part, ev_true, ev_nm, ev_toB, frz, frzAt, toSeq_tup, toSeq_lst, toSeq_cl, toRet, mWipe, kbG, Mir.gTup, Mir.gLst, List.getElem?_cons_zero, List.getElem?_cons_succ, List.set_cons_zero, List.set_cons_succ, List.length_cons, List.length_nil, List.append_nil, List.nil_append, List.cons_append, Nat.reduceAdd, Nat.reduceLeDiff, Nat.reduceEqDiff, Nat.zero_add, reduceIte, Bool.false_eq_true, Bool.not_true, Bool.not_false, and_self, sizeM_eq]
    · show (b__law_claim_holds [.val (rowP r), .val c, .none, .none, .none] S).bind toRet = _
      unfold b__law_claim_holds
      simp only [ev_bind, ev_nox, ev_seq, ev_set, ev_setOwn, ev_share, ev_drop, ev_ret, ev_retOwn, ev_skip, ev_brk, ev_cnt, ev_ifS, ev_frzS, ev_append, ev_setIx, ev_for, ev_lc, ev_seqOf, ev_range, ev_var, ev_c, ev_op, ev_un, ev_args, ev_nil, ev_cons, ev_frz, ev_b, ev_and, ev_or, ev_not, ev_andV, ev_orV, ev_notV, ev_if, ev_chain, ev_isi, ev_ixOwn, ev_lenOwn, ev_call, ev_callK, ev_sl, ev_part, ev_true, ev_nm, ev_toB, frz, frzAt, toSeq_tup, toSeq_lst, toSeq_cl, toRet, mWipe, kbG, Mir.gTup, Mir.gLst, List.getElem?_cons_zero, List.getElem?_cons_succ, List.set_cons_zero, List.set_cons_succ, List.length_cons, List.length_nil, List.append_nil, List.nil_append, List.cons_append, Nat.reduceAdd, Nat.reduceLeDiff, Nat.reduceEqDiff, Nat.zero_add, reduceIte, Bool.false_eq_true, Bool.not_true, Bool.not_false, and_self, sizeM_eq, isi_tuple hc.no]
      cases c <;> simp only [isTupP, ev_bind, ev_nox, ev_seq, ev_set, ev_setOwn, ev_share, ev_drop, ev_ret, ev_retOwn, ev_skip, ev_brk, ev_cnt, ev_ifS, ev_frzS, ev_append, ev_setIx, ev_for, ev_lc, ev_seqOf, ev_range, ev_var, ev_c, ev_op, ev_un, ev_args, ev_nil, ev_cons, ev_frz, ev_b, ev_and, ev_or, ev_not, ev_andV, ev_orV, ev_notV, ev_if, ev_chain, ev_isi, ev_ixOwn, ev_lenOwn, ev_call, ev_callK, ev_sl, ev_part, ev_true, ev_nm, ev_toB, frz, frzAt, toSeq_tup, toSeq_lst, toSeq_cl, toRet, mWipe, kbG, Mir.gTup, Mir.gLst, List.getElem?_cons_zero, List.getElem?_cons_succ, List.set_cons_zero, List.set_cons_succ, List.length_cons, List.length_nil, List.append_nil, List.nil_append, List.cons_append, Nat.reduceAdd, Nat.reduceLeDiff, Nat.reduceEqDiff, Nat.zero_add, reduceIte, Bool.false_eq_true, Bool.not_true, Bool.not_false, and_self, sizeM_eq]
      rename_i xs
      have q : decide ((xs.length : Int) = 2) = false := decide_eq_false (by have := hx xs rfl; omega)
      simp only [gAddA, gAdd, gMulA, gMul, Mir.gSub, gFdiv, gMod, gLt, gLe, gGt, gGe, gLen, gInt, gAbs, gNeg, neD_int, q, ev_bind, ev_nox, ev_seq, ev_set, ev_setOwn, ev_share, ev_drop, ev_ret, ev_retOwn, ev_skip, ev_brk, ev_cnt, ev_ifS, ev_frzS, ev_append, ev_setIx, ev_for, ev_lc, ev_seqOf, ev_range, ev_var, ev_c, ev_op, ev_un, ev_args, ev_nil, ev_cons, ev_frz, ev_b, ev_and, ev_or, ev_not, ev_andV, ev_orV, ev_notV, ev_if, ev_chain, ev_isi, ev_ixOwn, ev_lenOwn, ev_call, ev_callK, ev_sl, ev_part, ev_true, ev_nm, ev_toB, frz, frzAt, toSeq_tup, toSeq_lst, toSeq_cl, toRet, mWipe, kbG, Mir.gTup, Mir.gLst, List.getElem?_cons_zero, List.getElem?_cons_succ, List.set_cons_zero, List.set_cons_succ, List.length_cons, List.length_nil, List.append_nil, List.nil_append, List.cons_append, Nat.reduceAdd, Nat.reduceLeDiff, Nat.reduceEqDiff, Nat.zero_add, reduceIte, Bool.false_eq_true, Bool.not_true, Bool.not_false, and_self, sizeM_eq]
  by_cases h2 : ∃ a t, c = .tup [a, t]
  · obtain ⟨a, t, rfl⟩ := h2
    have cl := hc.tup
    have ca := cl a (by simp)
    have ct := cl t (by simp)
    have q2 : decide (((2 : Nat) : Int) = 2) = true := rfl
    have i0 : atI [a, t] 0 = some a := rfl
    have i1 : atI [a, t] 1 = some t := rfl
    have six_ok : m__law_six [] S = .ok (.lst [.tup [.str "all no", .tup [.int 0, .int 0]], .tup [.str "all yes", .tup [.int 1, .int 1]], .tup [.str "and", .tup [.int 0, .int 0, .int 0, .int 1]], .tup [.str "or", .tup [.int 0, .int 1, .int 1, .int 1]], .tup [.str "majority", .tup [.int 0, .int 0, .int 0, .int 1, .int 0, .int 1, .int 1, .int 1]], .tup [.str "odd one", .tup [.int 0, .int 1, .int 1, .int 0, .int 1, .int 0, .int 0, .int 1]]]) S := by kernel_rfl
    have it : m__is_term 20 [t, c_DEEPEST] S = .ok (.bl (isT 12 t)) S := isterm_ok 12 20 t (by decide) ct S
    have il : m__law_is_term 20 [t, .int 12] S = .ok (.bl (isT 12 t)) S := lawisterm_ok 12 20 t (by decide) ct S
    by_cases hs : ∃ w, a = .str w
    · obtain ⟨w, rfl⟩ := hs
      rcases hw w t rfl with h6 | h6
      · obtain ⟨W, hW⟩ := wide_ok w h6
        obtain ⟨w1, ⟨p1, w2, w3⟩, p2, w4, k, w5, w6⟩ := hW r t S
        have j0 : atI [p2] 0 = some p2 := rfl
        cases ht : isT 12 t with
        | false =>
          refine ⟨false, ?_, ?_⟩
          · show (b_term_holds [.val (rowP r), .val (.tup [.str w, t]), .none, .none] S).bind toRet = _
            unfold b_term_holds
            simp only [ev_bind, ev_nox, ev_seq, ev_set, ev_setOwn, ev_share, ev_drop, ev_ret, ev_retOwn, ev_skip, ev_brk, ev_cnt, ev_ifS, ev_frzS, ev_append, ev_setIx, ev_for, ev_lc, ev_seqOf, ev_range, ev_var, ev_c, ev_op, ev_un, ev_args, ev_nil, ev_cons, ev_frz, ev_b, ev_and, ev_or, ev_not, ev_andV, ev_orV, ev_notV, ev_if, ev_chain, ev_isi, ev_ixOwn, ev_lenOwn, ev_call, ev_callK, ev_sl, ev_part, ev_true, ev_nm, ev_toB, frz, frzAt, toSeq_tup, toSeq_lst, toSeq_cl, toRet, mWipe, kbG, Mir.gTup, Mir.gLst, List.getElem?_cons_zero, List.getElem?_cons_succ, List.set_cons_zero, List.set_cons_succ, List.length_cons, List.length_nil, List.append_nil, List.nil_append, List.cons_append, Nat.reduceAdd, Nat.reduceLeDiff, Nat.reduceEqDiff, Nat.zero_add, reduceIte, Bool.false_eq_true, Bool.not_true, Bool.not_false, and_self, sizeM_eq, ev_bindExc, ev_asg, ev_unTup, ev_unLst, ev_tupM, ev_gsCons, ev_gsNil, ev_raise, ev_tryL, ev_tryOk, ev_tryExc, ev_kin, ev_kget, ev_index, eqD_int, neD_int, isi_tuple hc.no, isTupP, gAddA, gAdd, gMulA, gMul, Mir.gSub, gFdiv, gMod, gLt, gLe, gGt, gGe, gLen, gInt, gAbs, gNeg, neD_int, q2, isi_str ca.no, isStrP, w1, it, ht]
          · show (b__law_claim_holds [.val (rowP r), .val (.tup [.str w, t]), .none, .none, .none] S).bind toRet = _
            unfold b__law_claim_holds
            simp only [ev_bind, ev_nox, ev_seq, ev_set, ev_setOwn, ev_share, ev_drop, ev_ret, ev_retOwn, ev_skip, ev_brk, ev_cnt, ev_ifS, ev_frzS, ev_append, ev_setIx, ev_for, ev_lc, ev_seqOf, ev_range, ev_var, ev_c, ev_op, ev_un, ev_args, ev_nil, ev_cons, ev_frz, ev_b, ev_and, ev_or, ev_not, ev_andV, ev_orV, ev_notV, ev_if, ev_chain, ev_isi, ev_ixOwn, ev_lenOwn, ev_call, ev_callK, ev_sl, ev_part, ev_true, ev_nm, ev_toB, frz, frzAt, toSeq_tup, toSeq_lst, toSeq_cl, toRet, mWipe, kbG, Mir.gTup, Mir.gLst, List.getElem?_cons_zero, List.getElem?_cons_succ, List.set_cons_zero, List.set_cons_succ, List.length_cons, List.length_nil, List.append_nil, List.nil_append, List.cons_append, Nat.reduceAdd, Nat.reduceLeDiff, Nat.reduceEqDiff, Nat.zero_add, reduceIte, Bool.false_eq_true, Bool.not_true, Bool.not_false, and_self, sizeM_eq, ev_bindExc, ev_asg, ev_unTup, ev_unLst, ev_tupM, ev_gsCons, ev_gsNil, ev_raise, ev_tryL, ev_tryOk, ev_tryExc, ev_kin, ev_kget, ev_index, eqD_int, neD_int, isi_tuple hc.no, isTupP, gAddA, gAdd, gMulA, gMul, Mir.gSub, gFdiv, gMod, gLt, gLe, gGt, gGe, gLen, gInt, gAbs, gNeg, neD_int, q2, gIx, i0, i1, isi_str ca.no, isStrP, six_ok, w4, eqD_int, show decide (((1 : Nat) : Int) = 0) = false from rfl, il, ht]
        | true =>
          refine ⟨decide (tbl r t = W), ?_, ?_⟩
          · show (b_term_holds [.val (rowP r), .val (.tup [.str w, t]), .none, .none] S).bind toRet = _
            unfold b_term_holds
            simp only [ev_bind, ev_nox, ev_seq, ev_set, ev_setOwn, ev_share, ev_drop, ev_ret, ev_retOwn, ev_skip, ev_brk, ev_cnt, ev_ifS, ev_frzS, ev_append, ev_setIx, ev_for, ev_lc, ev_seqOf, ev_range, ev_var, ev_c, ev_op, ev_un, ev_args, ev_nil, ev_cons, ev_frz, ev_b, ev_and, ev_or, ev_not, ev_andV, ev_orV, ev_notV, ev_if, ev_chain, ev_isi, ev_ixOwn, ev_lenOwn, ev_call, ev_callK, ev_sl, ev_part, ev_true, ev_nm, ev_toB, frz, frzAt, toSeq_tup, toSeq_lst, toSeq_cl, toRet, mWipe, kbG, Mir.gTup, Mir.gLst, List.getElem?_cons_zero, List.getElem?_cons_succ, List.set_cons_zero, List.set_cons_succ, List.length_cons, List.length_nil, List.append_nil, List.nil_append, List.cons_append, Nat.reduceAdd, Nat.reduceLeDiff, Nat.reduceEqDiff, Nat.zero_add, reduceIte, Bool.false_eq_true, Bool.not_true, Bool.not_false, and_self, sizeM_eq, ev_bindExc, ev_asg, ev_unTup, ev_unLst, ev_tupM, ev_gsCons, ev_gsNil, ev_raise, ev_tryL, ev_tryOk, ev_tryExc, ev_kin, ev_kget, ev_index, eqD_int, neD_int, isi_tuple hc.no, isTupP, gAddA, gAdd, gMulA, gMul, Mir.gSub, gFdiv, gMod, gLt, gLe, gGt, gGe, gLen, gInt, gAbs, gNeg, neD_int, q2, isi_str ca.no, isStrP, w1, it, ht, told_ok T 12 20 t (by decide) ct ht S, w2, w3, eqD_row]
          · show (b__law_claim_holds [.val (rowP r), .val (.tup [.str w, t]), .none, .none, .none] S).bind toRet = _
            unfold b__law_claim_holds
            simp only [ev_bind, ev_nox, ev_seq, ev_set, ev_setOwn, ev_share, ev_drop, ev_ret, ev_retOwn, ev_skip, ev_brk, ev_cnt, ev_ifS, ev_frzS, ev_append, ev_setIx, ev_for, ev_lc, ev_seqOf, ev_range, ev_var, ev_c, ev_op, ev_un, ev_args, ev_nil, ev_cons, ev_frz, ev_b, ev_and, ev_or, ev_not, ev_andV, ev_orV, ev_notV, ev_if, ev_chain, ev_isi, ev_ixOwn, ev_lenOwn, ev_call, ev_callK, ev_sl, ev_part, ev_true, ev_nm, ev_toB, frz, frzAt, toSeq_tup, toSeq_lst, toSeq_cl, toRet, mWipe, kbG, Mir.gTup, Mir.gLst, List.getElem?_cons_zero, List.getElem?_cons_succ, List.set_cons_zero, List.set_cons_succ, List.length_cons, List.length_nil, List.append_nil, List.nil_append, List.cons_append, Nat.reduceAdd, Nat.reduceLeDiff, Nat.reduceEqDiff, Nat.zero_add, reduceIte, Bool.false_eq_true, Bool.not_true, Bool.not_false, and_self, sizeM_eq, ev_bindExc, ev_asg, ev_unTup, ev_unLst, ev_tupM, ev_gsCons, ev_gsNil, ev_raise, ev_tryL, ev_tryOk, ev_tryExc, ev_kin, ev_kget, ev_index, eqD_int, neD_int, isi_tuple hc.no, isTupP, gAddA, gAdd, gMulA, gMul, Mir.gSub, gFdiv, gMod, gLt, gLe, gGt, gGe, gLen, gInt, gAbs, gNeg, neD_int, q2, gIx, i0, i1, isi_str ca.no, isStrP, six_ok, w4, eqD_int, show decide (((1 : Nat) : Int) = 0) = false from rfl, il, ht, lawtable_ok T 12 20 t (by decide) ct ht S, j0, w5, w6, eqD_row]
      · obtain ⟨w1, w4⟩ := no_word w h6 r t S
        refine ⟨false, ?_, ?_⟩
        · show (b_term_holds [.val (rowP r), .val (.tup [.str w, t]), .none, .none] S).bind toRet = _
          unfold b_term_holds
          simp only [ev_bind, ev_nox, ev_seq, ev_set, ev_setOwn, ev_share, ev_drop, ev_ret, ev_retOwn, ev_skip, ev_brk, ev_cnt, ev_ifS, ev_frzS, ev_append, ev_setIx, ev_for, ev_lc, ev_seqOf, ev_range, ev_var, ev_c, ev_op, ev_un, ev_args, ev_nil, ev_cons, ev_frz, ev_b, ev_and, ev_or, ev_not, ev_andV, ev_orV, ev_notV, ev_if, ev_chain, ev_isi, ev_ixOwn, ev_lenOwn, ev_call, ev_callK, ev_sl, ev_part, ev_true, ev_nm, ev_toB, frz, frzAt, toSeq_tup, toSeq_lst, toSeq_cl, toRet, mWipe, kbG, Mir.gTup, Mir.gLst, List.getElem?_cons_zero, List.getElem?_cons_succ, List.set_cons_zero, List.set_cons_succ, List.length_cons, List.length_nil, List.append_nil, List.nil_append, List.cons_append, Nat.reduceAdd, Nat.reduceLeDiff, Nat.reduceEqDiff, Nat.zero_add, reduceIte, Bool.false_eq_true, Bool.not_true, Bool.not_false, and_self, sizeM_eq, ev_bindExc, ev_asg, ev_unTup, ev_unLst, ev_tupM, ev_gsCons, ev_gsNil, ev_raise, ev_tryL, ev_tryOk, ev_tryExc, ev_kin, ev_kget, ev_index, eqD_int, neD_int, isi_tuple hc.no, isTupP, gAddA, gAdd, gMulA, gMul, Mir.gSub, gFdiv, gMod, gLt, gLe, gGt, gGe, gLen, gInt, gAbs, gNeg, neD_int, q2, isi_str ca.no, isStrP, w1]
        · show (b__law_claim_holds [.val (rowP r), .val (.tup [.str w, t]), .none, .none, .none] S).bind toRet = _
          unfold b__law_claim_holds
          simp only [ev_bind, ev_nox, ev_seq, ev_set, ev_setOwn, ev_share, ev_drop, ev_ret, ev_retOwn, ev_skip, ev_brk, ev_cnt, ev_ifS, ev_frzS, ev_append, ev_setIx, ev_for, ev_lc, ev_seqOf, ev_range, ev_var, ev_c, ev_op, ev_un, ev_args, ev_nil, ev_cons, ev_frz, ev_b, ev_and, ev_or, ev_not, ev_andV, ev_orV, ev_notV, ev_if, ev_chain, ev_isi, ev_ixOwn, ev_lenOwn, ev_call, ev_callK, ev_sl, ev_part, ev_true, ev_nm, ev_toB, frz, frzAt, toSeq_tup, toSeq_lst, toSeq_cl, toRet, mWipe, kbG, Mir.gTup, Mir.gLst, List.getElem?_cons_zero, List.getElem?_cons_succ, List.set_cons_zero, List.set_cons_succ, List.length_cons, List.length_nil, List.append_nil, List.nil_append, List.cons_append, Nat.reduceAdd, Nat.reduceLeDiff, Nat.reduceEqDiff, Nat.zero_add, reduceIte, Bool.false_eq_true, Bool.not_true, Bool.not_false, and_self, sizeM_eq, ev_bindExc, ev_asg, ev_unTup, ev_unLst, ev_tupM, ev_gsCons, ev_gsNil, ev_raise, ev_tryL, ev_tryOk, ev_tryExc, ev_kin, ev_kget, ev_index, eqD_int, neD_int, isi_tuple hc.no, isTupP, gAddA, gAdd, gMulA, gMul, Mir.gSub, gFdiv, gMod, gLt, gLe, gGt, gGe, gLen, gInt, gAbs, gNeg, neD_int, q2, gIx, i0, i1, isi_str ca.no, isStrP, six_ok, w4, eqD_int, show decide (((0 : Nat) : Int) = 0) = true from rfl]
    · have ns : isStrP a = false := by cases a <;> first | rfl | exact absurd ⟨_, rfl⟩ hs
      refine ⟨false, ?_, ?_⟩
      · show (b_term_holds [.val (rowP r), .val (.tup [a, t]), .none, .none] S).bind toRet = _
        unfold b_term_holds
        simp only [ev_bind, ev_nox, ev_seq, ev_set, ev_setOwn, ev_share, ev_drop, ev_ret, ev_retOwn, ev_skip, ev_brk, ev_cnt, ev_ifS, ev_frzS, ev_append, ev_setIx, ev_for, ev_lc, ev_seqOf, ev_range, ev_var, ev_c, ev_op, ev_un, ev_args, ev_nil, ev_cons, ev_frz, ev_b, ev_and, ev_or, ev_not, ev_andV, ev_orV, ev_notV, ev_if, ev_chain, ev_isi, ev_ixOwn, ev_lenOwn, ev_call, ev_callK, ev_sl, ev_part, ev_true, ev_nm, ev_toB, frz, frzAt, toSeq_tup, toSeq_lst, toSeq_cl, toRet, mWipe, kbG, Mir.gTup, Mir.gLst, List.getElem?_cons_zero, List.getElem?_cons_succ, List.set_cons_zero, List.set_cons_succ, List.length_cons, List.length_nil, List.append_nil, List.nil_append, List.cons_append, Nat.reduceAdd, Nat.reduceLeDiff, Nat.reduceEqDiff, Nat.zero_add, reduceIte, Bool.false_eq_true, Bool.not_true, Bool.not_false, and_self, sizeM_eq, ev_bindExc, ev_asg, ev_unTup, ev_unLst, ev_tupM, ev_gsCons, ev_gsNil, ev_raise, ev_tryL, ev_tryOk, ev_tryExc, ev_kin, ev_kget, ev_index, eqD_int, neD_int, isi_tuple hc.no, isTupP, gAddA, gAdd, gMulA, gMul, Mir.gSub, gFdiv, gMod, gLt, gLe, gGt, gGe, gLen, gInt, gAbs, gNeg, neD_int, q2, isi_str ca.no, ns]
      · show (b__law_claim_holds [.val (rowP r), .val (.tup [a, t]), .none, .none, .none] S).bind toRet = _
        unfold b__law_claim_holds
        simp only [ev_bind, ev_nox, ev_seq, ev_set, ev_setOwn, ev_share, ev_drop, ev_ret, ev_retOwn, ev_skip, ev_brk, ev_cnt, ev_ifS, ev_frzS, ev_append, ev_setIx, ev_for, ev_lc, ev_seqOf, ev_range, ev_var, ev_c, ev_op, ev_un, ev_args, ev_nil, ev_cons, ev_frz, ev_b, ev_and, ev_or, ev_not, ev_andV, ev_orV, ev_notV, ev_if, ev_chain, ev_isi, ev_ixOwn, ev_lenOwn, ev_call, ev_callK, ev_sl, ev_part, ev_true, ev_nm, ev_toB, frz, frzAt, toSeq_tup, toSeq_lst, toSeq_cl, toRet, mWipe, kbG, Mir.gTup, Mir.gLst, List.getElem?_cons_zero, List.getElem?_cons_succ, List.set_cons_zero, List.set_cons_succ, List.length_cons, List.length_nil, List.append_nil, List.nil_append, List.cons_append, Nat.reduceAdd, Nat.reduceLeDiff, Nat.reduceEqDiff, Nat.zero_add, reduceIte, Bool.false_eq_true, Bool.not_true, Bool.not_false, and_self, sizeM_eq, ev_bindExc, ev_asg, ev_unTup, ev_unLst, ev_tupM, ev_gsCons, ev_gsNil, ev_raise, ev_tryL, ev_tryOk, ev_tryExc, ev_kin, ev_kget, ev_index, eqD_int, neD_int, isi_tuple hc.no, isTupP, gAddA, gAdd, gMulA, gMul, Mir.gSub, gFdiv, gMod, gLt, gLe, gGt, gGe, gLen, gInt, gAbs, gNeg, neD_int, q2, gIx, i0, isi_str ca.no, ns]
  · refine no fun xs e hl => h2 ?_
    match xs, hl with
    | [a, t], _ => exact ⟨a, t, e⟩
end K07
set_option maxHeartbeats 4000000
namespace K07
open PySem L2 Mir
/-- trees of threes -/
def tree : PV → Bool
  | .int _ => true
  | .tup [a, b, c] => tree a && (tree b && tree c)
  | _ => false
theorem tree_cases : ∀ {v : PV}, tree v = true → (∃ i, v = .int i) ∨ ∃ a b c, v = .tup [a, b, c] ∧ tree a = true ∧ tree b = true ∧ tree c = true
  | .int i, _ => .inl ⟨i, rfl⟩
  | .tup [a, b, c], h => by
    simp only [tree, Bool.and_eq_true] at h
    exact .inr ⟨a, b, c, rfl, h.1, h.2.1, h.2.2⟩
  | .tup [], h => by simp [tree] at h
  | .tup [_], h => by simp [tree] at h
  | .tup [_, _], h => by simp [tree] at h
  | .tup (_ :: _ :: _ :: _ :: _), h => by simp [tree] at h
  | .non, h => by simp [tree] at h
  | .bl _, h => by simp [tree] at h
  | .str _, h => by simp [tree] at h
  | .lst _, h => by simp [tree] at h
  | .cl _, h => by simp [tree] at h
  | .obj _, h => by simp [tree] at h
theorem clean_int (i : Int) : Clean (.int i) := rfl
theorem tree_clean : ∀ (v : PV), tree v = true → Clean v
  | .int i, _ => rfl
  | .tup [a, b, c], h => by
    simp only [tree, Bool.and_eq_true] at h
    refine clean_tup fun x hx => ?_
    simp only [List.mem_cons, List.not_mem_nil, or_false] at hx
    rcases hx with rfl | rfl | rfl
    · exact tree_clean _ h.1
    · exact tree_clean _ h.2.1
    · exact tree_clean _ h.2.2
  | .tup [], h => by simp [tree] at h
  | .tup [_], h => by simp [tree] at h
  | .tup [_, _], h => by simp [tree] at h
  | .tup (_ :: _ :: _ :: _ :: _), h => by simp [tree] at h
  | .non, h => by simp [tree] at h
  | .bl _, h => by simp [tree] at h
  | .str _, h => by simp [tree] at h
  | .lst _, h => by simp [tree] at h
  | .cl _, h => by simp [tree] at h
  | .obj _, h => by simp [tree] at h
theorem drawn_ok : ∀ (d f : Nat), d < f → ∀ {S : Store}, Hand S [] → ∃ v S', m__law_drawn_term f [.obj 0, .int d] S = .ok v S' ∧ Hand S' [] ∧ tree v = true
  | d, 0, h, _, _ => absurd h (Nat.not_lt_zero d)
  | 0, f + 1, _, S, h => by
    obtain ⟨i, S1, e, g, _, _⟩ := take_ok (many := 3) h (by decide)
    refine ⟨.int i, S1, ?_, g, rfl⟩
    show (b__law_drawn_term (m__law_drawn_term f) [.val (.obj 0), .val (.int (0 : Nat)), .none] S).bind toRet = _
    unfold b__law_drawn_term
    rw [d_take]
    simp only [ev_bind, ev_nox, ev_seq, ev_set, ev_setOwn, ev_share, ev_drop, ev_ret, ev_retOwn, ev_skip, ev_brk, ev_cnt, ev_ifS, ev_frzS, ev_append, ev_setIx, ev_for, ev_lc, ev_seqOf, ev_range, ev_var, ev_c, ev_op, ev_un, ev_args, ev_nil, ev_cons, ev_frz, ev_b, ev_and, ev_or, ev_not, ev_andV, ev_orV, ev_notV, ev_if, ev_chain, ev_isi, ev_ixOwn, ev_lenOwn, ev_call, ev_callK, ev_sl, ev_part, ev_true, ev_nm, ev_toB, frz, frzAt, toSeq_tup, toSeq_lst, toSeq_cl, toRet, mWipe, kbG, Mir.gTup, Mir.gLst, List.getElem?_cons_zero, List.getElem?_cons_succ, List.set_cons_zero, List.set_cons_succ, List.length_cons, List.length_nil, List.append_nil, List.nil_append, List.cons_append, Nat.reduceAdd, Nat.reduceLeDiff, Nat.reduceEqDiff, Nat.zero_add, reduceIte, Bool.false_eq_true, Bool.not_true, Bool.not_false, and_self, sizeM_eq, ev_bindExc, ev_asg, ev_unTup, ev_unLst, ev_tupM, ev_gsCons, ev_gsNil, ev_raise, ev_tryL, ev_tryOk, ev_tryExc, ev_kin, ev_kget, ev_index, eqD_int, neD_int, show decide (((0 : Nat) : Int) = 0) = true from rfl, e]
  | d + 1, f + 1, hf, S, h => by
    obtain ⟨i, S1, e1, g1, _, _⟩ := take_ok (many := 3) h (by decide)
    have q0 : decide (((d + 1 : Nat) : Int) = 0) = false := decide_eq_false (by omega)
    by_cases hi : i = 0
    · obtain ⟨j, S2, e2, g2, _, _⟩ := take_ok (many := 3) g1 (by decide)
      refine ⟨.int j, S2, ?_, g2, rfl⟩
      show (b__law_drawn_term (m__law_drawn_term f) [.val (.obj 0), .val (.int ((d + 1 : Nat) : Int)), .none] S).bind toRet = _
      unfold b__law_drawn_term
      rw [d_take]
      have q1 : decide (i = 0) = true := decide_eq_true hi
      simp only [ev_bind, ev_nox, ev_seq, ev_set, ev_setOwn, ev_share, ev_drop, ev_ret, ev_retOwn, ev_skip, ev_brk, ev_cnt, ev_ifS, ev_frzS, ev_append, ev_setIx, ev_for, ev_lc, ev_seqOf, ev_range, ev_var, ev_c, ev_op, ev_un, ev_args, ev_nil, ev_cons, ev_frz, ev_b, ev_and, ev_or, ev_not, ev_andV, ev_orV, ev_notV, ev_if, ev_chain, ev_isi, ev_ixOwn, ev_lenOwn, ev_call, ev_callK, ev_sl, ev_part, ev_true, ev_nm, ev_toB, frz, frzAt, toSeq_tup, toSeq_lst, toSeq_cl, toRet, mWipe, kbG, Mir.gTup, Mir.gLst, List.getElem?_cons_zero, List.getElem?_cons_succ, List.set_cons_zero, List.set_cons_succ, List.length_cons, List.length_nil, List.append_nil, List.nil_append, List.cons_append, Nat.reduceAdd, Nat.reduceLeDiff, Nat.reduceEqDiff, Nat.zero_add, reduceIte, Bool.false_eq_true, Bool.not_true, Bool.not_false, and_self, sizeM_eq, ev_bindExc, ev_asg, ev_unTup, ev_unLst, ev_tupM, ev_gsCons, ev_gsNil, ev_raise, ev_tryL, ev_tryOk, ev_tryExc, ev_kin, ev_kget, ev_index, eqD_int, neD_int, q0, e1, q1, e2]
    · have qs : ((d + 1 : Nat) : Int) - 1 = d := by omega
      obtain ⟨ys, S2, e2, g2, hl, hy⟩ := lc_inv (g := gNm 2) (t := mTrue) (a := mCall 2 (m__law_drawn_term f) [] (mCons (mVar 0) (mCons (mOp gSub (mVar 1) (mC (.int 1))) mNil))) (ρ := [.val (.obj 0), .val (.int ((d + 1 : Nat) : Int)), .none]) (xs := rng 3) (fun S => Hand S []) (fun _ y => tree y = true) (fun x _ S h => by
        obtain ⟨v, S', e, g, t⟩ := drawn_ok d f (by omega) h
        refine ⟨_, v, S', rfl, rfl, ?_, t, g⟩
        obtain ⟨k, hk, rfl⟩ := List.mem_map.mp ‹x ∈ rng 3›
        simp only [ev_bind, ev_nox, ev_seq, ev_set, ev_setOwn, ev_share, ev_drop, ev_ret, ev_retOwn, ev_skip, ev_brk, ev_cnt, ev_ifS, ev_frzS, ev_append, ev_setIx, ev_for, ev_lc, ev_seqOf, ev_range, ev_var, ev_c, ev_op, ev_un, ev_args, ev_nil, ev_cons, ev_frz, ev_b, ev_and, ev_or, ev_not, ev_andV, ev_orV, ev_notV, ev_if, ev_chain, ev_isi, ev_ixOwn, ev_lenOwn, ev_call, ev_callK, ev_sl, ev_part, ev_true, ev_nm, ev_toB, frz, frzAt, toSeq_tup, toSeq_lst, toSeq_cl, toRet, mWipe, kbG, Mir.gTup, Mir.gLst, List.getElem?_cons_zero, List.getElem?_cons_succ, List.set_cons_zero, List.set_cons_succ, List.length_cons, List.length_nil, List.append_nil, List.nil_append, List.cons_append, Nat.reduceAdd, Nat.reduceLeDiff, Nat.reduceEqDiff, Nat.zero_add, reduceIte, Bool.false_eq_true, Bool.not_true, Bool.not_false, and_self, sizeM_eq, gAddA, gAdd, gMulA, gMul, Mir.gSub, gFdiv, gMod, gLt, gLe, gGt, gGe, gLen, gInt, gAbs, gNeg, qs, e]) S1 g1
      have ht := ix_all (P := fun y => tree y = true) hl hy
      have hl3 : ys.length = 3 := by simpa [rng] using hl
      match ys, hl3, ht with
      | [a, b, c], _, ht =>
        refine ⟨.tup [a, b, c], S2, ?_, g2, by simp only [tree, ht a (by simp), ht b (by simp), ht c (by simp), Bool.and_self]⟩
        show (b__law_drawn_term (m__law_drawn_term f) [.val (.obj 0), .val (.int ((d + 1 : Nat) : Int)), .none] S).bind toRet = _
        unfold b__law_drawn_term
        rw [d_take]
        have q1 : decide (i = 0) = false := decide_eq_false hi
        have r3 : range62 3 = true := by decide
        unfold rng at e2
        simp only [ev_bind, ev_nox, ev_seq, ev_set, ev_setOwn, ev_share, ev_drop, ev_ret, ev_retOwn, ev_skip, ev_brk, ev_cnt, ev_ifS, ev_frzS, ev_append, ev_setIx, ev_for, ev_lc, ev_seqOf, ev_range, ev_var, ev_c, ev_op, ev_un, ev_args, ev_nil, ev_cons, ev_frz, ev_b, ev_and, ev_or, ev_not, ev_andV, ev_orV, ev_notV, ev_if, ev_chain, ev_isi, ev_ixOwn, ev_lenOwn, ev_call, ev_callK, ev_sl, ev_part, ev_true, ev_nm, ev_toB, frz, frzAt, toSeq_tup, toSeq_lst, toSeq_cl, toRet, mWipe, kbG, Mir.gTup, Mir.gLst, List.getElem?_cons_zero, List.getElem?_cons_succ, List.set_cons_zero, List.set_cons_succ, List.length_cons, List.length_nil, List.append_nil, List.nil_append, List.cons_append, Nat.reduceAdd, Nat.reduceLeDiff, Nat.reduceEqDiff, Nat.zero_add, reduceIte, Bool.false_eq_true, Bool.not_true, Bool.not_false, and_self, sizeM_eq, ev_bindExc, ev_asg, ev_unTup, ev_unLst, ev_tupM, ev_gsCons, ev_gsNil, ev_raise, ev_tryL, ev_tryOk, ev_tryExc, ev_kin, ev_kget, ev_index, eqD_int, neD_int, q0, e1, q1, gRange1, r3, show (3 : Int).toNat = 3 from rfl, List.length_map, List.length_range, e2, gTuple]
theorem deep_ok {S : Store} (h : Hand S []) {n : Nat} (hn : n ≤ 1000) : ∃ v S', m__law_deep [.obj 0, .int n] S = .ok v S' ∧ Hand S' [] ∧ tree v = true := by
  obtain ⟨i, S1, e1, g1, _, _⟩ := take_ok (many := 3) h (by decide)
  obtain ⟨ρ', S2, e2, t, s3, rfl, g2, ht⟩ := for_inv (g := gNm 3) (b := mSet 2 (mOp gIx (mFrz (mArgs gLst (mCons (mArgs Mir.gTup (mCons (mVar 2) (mCons (mC (.int 0)) (mCons (mC (.int 1)) mNil)))) (mCons (mArgs Mir.gTup (mCons (mC (.int 2)) (mCons (mVar 2) (mCons (mC (.int 2)) mNil)))) (mCons (mArgs Mir.gTup (mCons (mC (.int 1)) (mCons (mC (.int 0)) (mCons (mVar 2) mNil)))) mNil))))) (mCall 2 m__law_take [] (mCons (mVar 0) (mCons (mC (.int 3)) mNil))))) (xs := rng n)
    (fun _ ρ S => ∃ t s3, ρ = [.val (.obj 0), .val (.int n), .val t, s3] ∧ Hand S [] ∧ tree t = true) (by
      rintro pre x post ρ S' ex ⟨t, s3, rfl, g, ht⟩
      obtain ⟨j, S2, e, g2, j0, j1⟩ := take_ok (many := 3) g (by decide)
      obtain ⟨y, ey, hy⟩ := at_mem (xs := [PV.tup [t, .int 0, .int 1], .tup [.int 2, t, .int 2], .tup [.int 1, .int 0, t]]) j0 j1
      refine ⟨[.val (.obj 0), .val (.int n), .val y, .val x], S2, .inl ?_, y, _, rfl, g2, ?_⟩
      · rw [d_take]
        simp only [ev_bind, ev_nox, ev_seq, ev_set, ev_setOwn, ev_share, ev_drop, ev_ret, ev_retOwn, ev_skip, ev_brk, ev_cnt, ev_ifS, ev_frzS, ev_append, ev_setIx, ev_for, ev_lc, ev_seqOf, ev_range, ev_var, ev_c, ev_op, ev_un, ev_args, ev_nil, ev_cons, ev_frz, ev_b, ev_and, ev_or, ev_not, ev_andV, ev_orV, ev_notV, ev_if, ev_chain, ev_isi, ev_ixOwn, ev_lenOwn, ev_call, ev_callK, ev_sl, ev_part, ev_true, ev_nm, ev_toB, frz, frzAt, toSeq_tup, toSeq_lst, toSeq_cl, toRet, mWipe, kbG, Mir.gTup, Mir.gLst, List.getElem?_cons_zero, List.getElem?_cons_succ, List.set_cons_zero, List.set_cons_succ, List.length_cons, List.length_nil, List.append_nil, List.nil_append, List.cons_append, Nat.reduceAdd, Nat.reduceLeDiff, Nat.reduceEqDiff, Nat.zero_add, reduceIte, Bool.false_eq_true, Bool.not_true, Bool.not_false, and_self, sizeM_eq, Nat.zero_le, e, gIx, ey]
      · simp only [List.mem_cons, List.not_mem_nil, or_false] at hy
        rcases hy with rfl | rfl | rfl <;> simp only [tree, ht, Bool.and_self]) [.val (.obj 0), .val (.int n), .val (.int i), .none] S1 ⟨_, _, rfl, g1, rfl⟩
  refine ⟨t, S2, ?_, g2, ht⟩
  show (b__law_deep [.val (.obj 0), .val (.int n), .none, .none] S).bind toRet = _
  unfold b__law_deep
  unfold rng at e2
  rw [d_take] at e2 ⊢
  simp only [ev_bind, ev_nox, ev_seq, ev_set, ev_setOwn, ev_share, ev_drop, ev_ret, ev_retOwn, ev_skip, ev_brk, ev_cnt, ev_ifS, ev_frzS, ev_append, ev_setIx, ev_for, ev_lc, ev_seqOf, ev_range, ev_var, ev_c, ev_op, ev_un, ev_args, ev_nil, ev_cons, ev_frz, ev_b, ev_and, ev_or, ev_not, ev_andV, ev_orV, ev_notV, ev_if, ev_chain, ev_isi, ev_ixOwn, ev_lenOwn, ev_call, ev_callK, ev_sl, ev_part, ev_true, ev_nm, ev_toB, frz, frzAt, toSeq_tup, toSeq_lst, toSeq_cl, toRet, mWipe, kbG, Mir.gTup, Mir.gLst, List.getElem?_cons_zero, List.getElem?_cons_succ, List.set_cons_zero, List.set_cons_succ, List.length_cons, List.length_nil, List.append_nil, List.nil_append, List.cons_append, Nat.reduceAdd, Nat.reduceLeDiff, Nat.reduceEqDiff, Nat.zero_add, reduceIte, Bool.false_eq_true, Bool.not_true, Bool.not_false, and_self, sizeM_eq, e1, gRange1, range62_ok (i := (n : Int)) (by omega) (by omega), Int.toNat_natCast, e2]
end K07
set_option maxHeartbeats 4000000
namespace K07
open PySem L2 Mir
/-- a parent: a threefold tree and a place in it -/
def Par (y : PV) : Prop := ∃ a b c, ∃ i : Int, y = .tup [.tup [a, b, c], .int i] ∧ 0 ≤ i ∧ i ≤ 2 ∧ Clean a ∧ Clean b ∧ Clean c
def B_b1 : Rho → Store → Res Out :=
  (mIfS (mB (mIsi "tuple" (mVar 1)))
    (mSeq (mSet 7 (mCall 2 m__law_take [] (mCons (mVar 0) (mCons (mC (.int 3)) mNil))))
    (mSeq (mAppend 2 (mArgs Mir.gTup (mCons (mVar 1) (mCons (mVar 7) mNil))))
    (mSet 1 (mOp gIx (mVar 1) (mVar 7)))))
    mSkip)
def B_b2 : Rho → Store → Res Out :=
  (mSeq (mAsg (mOp gIx (mVar 2) (mOp gSub (mOp gSub (mArgs gLen (mCons (mVar 2) mNil)) (mC (.int 1))) (mVar 3))) (gUn 2 (gsCons (gNm 6) (gsCons (gNm 7) gsNil))))
    (mSet 5 (mOp gAddA (mOp gAddA (mSl gSl (mVar 6) (fun _ S => .ok none S) (mPart (mVar 7))) (mArgs Mir.gTup (mCons (mVar 5) mNil))) (mSl gSl (mVar 6) (mPart (mOp gAddA (mVar 7) (mC (.int 1)))) (fun _ S => .ok none S)))))
theorem clean_cut {xs : List PV} (h : ∀ x ∈ xs, Clean x) (i j : Option Int) : ∀ x ∈ cutP xs i j, Clean x := fun x hx => h x (cutP_mem hx)
theorem bent_ok {S : Store} (h : Hand S []) {t : PV} (ht : tree t = true) : ∃ v S', m__law_bent [.obj 0, t] S = .ok v S' ∧ Hand S' [] ∧ Clean v := by
  obtain ⟨n, S1, e1, g1, n0, n1⟩ := take_ok (many := 4) h (by decide)
  obtain ⟨m, rfl, hm⟩ : ∃ m : Nat, n = m ∧ m ≤ 3 := ⟨n.toNat, by rw [Int.toNat_of_nonneg n0], by omega⟩
  obtain ⟨ρ', S2, e2, t2, ps, s3, s7, rfl, g2, ht2, hps, hpl⟩ := for_inv (g := gNm 3) (b := B_b1) (xs := rng m)
    (fun pre ρ S => ∃ t ps s3 s7, ρ = [.val (.obj 0), .val t, .own (.lst ps), s3, .none, .none, .none, s7] ∧ Hand S [] ∧ tree t = true ∧ (∀ y ∈ ps, Par y) ∧ ps.length ≤ pre.length) (by
      rintro pre x post ρ S' ex ⟨t, ps, s3, s7, rfl, g, ht, hps, hpl⟩
      have hlen : pre.length < m := by
        have := congrArg List.length ex
        simp [rng] at this; omega
      rcases tree_cases ht with ⟨i, rfl⟩ | ⟨a, b, c, rfl, ha, hb, hc⟩
      · refine ⟨_, S', .inl ?_, .int i, ps, .val x, s7, rfl, g, rfl, hps, by simp; omega⟩
        unfold B_b1
        simp only [ev_bind, ev_nox, ev_seq, ev_set, ev_setOwn, ev_share, ev_drop, ev_ret, ev_retOwn, ev_skip, ev_brk, ev_cnt, ev_ifS, ev_frzS, ev_append, ev_setIx, ev_for, ev_lc, ev_seqOf, ev_range, ev_var, ev_c, ev_op, ev_un, ev_args, ev_nil, ev_cons, ev_frz, ev_b, ev_and, ev_or, ev_not, ev_andV, ev_orV, ev_notV, ev_if, ev_chain, ev_isi, ev_ixOwn, ev_lenOwn, ev_call, ev_callK, ev_sl, ev_part, ev_true, ev_nm, ev_toB, frz, frzAt, toSeq_tup, toSeq_lst, toSeq_cl, toRet, mWipe, kbG, Mir.gTup, Mir.gLst, List.getElem?_cons_zero, List.getElem?_cons_succ, List.set_cons_zero, List.set_cons_succ, List.length_cons, List.length_nil, List.append_nil, List.nil_append, List.cons_append, Nat.reduceAdd, Nat.reduceLeDiff, Nat.reduceEqDiff, Nat.zero_add, reduceIte, Bool.false_eq_true, Bool.not_true, Bool.not_false, and_self, sizeM_eq, isi_tuple ((show NoObj (.int i) from fun n h => by cases h)), isTupP]
      · obtain ⟨j, S2, e, g2, j0, j1⟩ := take_ok (many := 3) g (by decide)
        obtain ⟨y, ey, hy⟩ := at_mem (xs := [a, b, c]) j0 j1
        have ty : tree y = true := by
          simp only [List.mem_cons, List.not_mem_nil, or_false] at hy
          rcases hy with rfl | rfl | rfl <;> assumption
        refine ⟨[.val (.obj 0), .val y, .own (.lst (ps ++ [.tup [.tup [a, b, c], .int j]])), .val x, .none, .none, .none, .val (.int j)], S2, .inl ?_, y, _, _, _, rfl, g2, ty, fun z hz => ?_, by simp; omega⟩
        · unfold B_b1
          rw [d_take]
          simp only [ev_bind, ev_nox, ev_seq, ev_set, ev_setOwn, ev_share, ev_drop, ev_ret, ev_retOwn, ev_skip, ev_brk, ev_cnt, ev_ifS, ev_frzS, ev_append, ev_setIx, ev_for, ev_lc, ev_seqOf, ev_range, ev_var, ev_c, ev_op, ev_un, ev_args, ev_nil, ev_cons, ev_frz, ev_b, ev_and, ev_or, ev_not, ev_andV, ev_orV, ev_notV, ev_if, ev_chain, ev_isi, ev_ixOwn, ev_lenOwn, ev_call, ev_callK, ev_sl, ev_part, ev_true, ev_nm, ev_toB, frz, frzAt, toSeq_tup, toSeq_lst, toSeq_cl, toRet, mWipe, kbG, Mir.gTup, Mir.gLst, List.getElem?_cons_zero, List.getElem?_cons_succ, List.set_cons_zero, List.set_cons_succ, List.length_cons, List.length_nil, List.append_nil, List.nil_append, List.cons_append, Nat.reduceAdd, Nat.reduceLeDiff, Nat.reduceEqDiff, Nat.zero_add, reduceIte, Bool.false_eq_true, Bool.not_true, Bool.not_false, and_self, sizeM_eq, isi_tuple (tree_clean _ ht).no, isTupP, e, Nat.zero_le, show ps.length < 100000 by omega, gIx, ey]
        · rcases List.mem_append.mp hz with hz | hz
          · exact hps z hz
          · rw [List.mem_singleton.mp hz]
            exact ⟨a, b, c, j, rfl, j0, by omega, tree_clean a ha, tree_clean b hb, tree_clean c hc⟩) [.val (.obj 0), .val t, .own (.lst []), .none, .none, .none, .none, .none] S1 ⟨t, [], _, _, rfl, g1, ht, (fun _ h => nomatch h), Nat.le_refl _⟩
  have hpl3 : ps.length ≤ 3 := by
    have : (rng m).length = m := by simp [rng]
    omega
  obtain ⟨j, S3, e3, g3, j0, j1⟩ := take_ok (many := 14) g2 (by decide)
  obtain ⟨y, ey, hy⟩ := at_mem (xs := [PV.int 3, .int (-1), .bl true, .non, .str "0", .tup [], .tup [.int 0, .int 1], .tup [.int 0, .int 1, .int 2, .int 0], .lst [.int 0, .int 1, .int 2], .int 0, .int 1, .int 2, .tup [.int 0, .int 0, .int 1], .tup [.int 2, .int 1, .int 0]]) j0 j1
  have cy : Clean y := by
    simp only [List.mem_cons, List.not_mem_nil, or_false] at hy
    rcases hy with rfl | rfl | rfl | rfl | rfl | rfl | rfl | rfl | rfl | rfl | rfl | rfl | rfl | rfl <;> rfl
  obtain ⟨ρ', S4, e4, v, s3', s6', s7', rfl, rfl, hv⟩ := for_inv (g := gNm 3) (b := B_b2) (xs := rng ps.length)
    (fun pre ρ S => ∃ v s3 s6 s7, ρ = [.val (.obj 0), .val t2, .val (.lst ps), s3, .val (.lst [PV.int 3, .int (-1), .bl true, .non, .str "0", .tup [], .tup [.int 0, .int 1], .tup [.int 0, .int 1, .int 2, .int 0], .lst [.int 0, .int 1, .int 2], .int 0, .int 1, .int 2, .tup [.int 0, .int 0, .int 1], .tup [.int 2, .int 1, .int 0]]), .val v, s6, s7] ∧ S = S3 ∧ Clean v) (by
      rintro pre x post ρ S' ex ⟨v, s3, s6, s7, rfl, rfl, hv⟩
      have hx : ∃ k : Nat, x = .int k ∧ k < ps.length := by
        have : x ∈ rng ps.length := by rw [ex]; simp
        obtain ⟨k, hk, rfl⟩ := List.mem_map.mp this
        exact ⟨k, rfl, by simpa using hk⟩
      obtain ⟨k, rfl, hk⟩ := hx
      obtain ⟨z, ez, hz⟩ := at_mem (xs := ps) (i := (ps.length : Int) - 1 - k) (by omega) (by omega)
      obtain ⟨a, b, c, i, rfl, i0, i2, ca, cb, cc⟩ := hps z hz
      have cabc : ∀ x ∈ [a, b, c], Clean x := fun x hx => by
        simp only [List.mem_cons, List.not_mem_nil, or_false] at hx
        rcases hx with rfl | rfl | rfl <;> assumption
      have l1 := cutP_len [a, b, c] none (some i)
      have l2 := cutP_len [a, b, c] (some (i + 1)) none
      simp only [List.length_cons, List.length_nil] at l1 l2
      refine ⟨_, S', .inl ?_, .tup (cutP [a, b, c] none (some i) ++ [v] ++ cutP [a, b, c] (some (i + 1)) none), .val (.int k), .val (.tup [a, b, c]), .val (.int i), rfl, rfl, clean_tup fun q hq => ?_⟩
      · unfold B_b2
        simp only [ev_bind, ev_nox, ev_seq, ev_set, ev_setOwn, ev_share, ev_drop, ev_ret, ev_retOwn, ev_skip, ev_brk, ev_cnt, ev_ifS, ev_frzS, ev_append, ev_setIx, ev_for, ev_lc, ev_seqOf, ev_range, ev_var, ev_c, ev_op, ev_un, ev_args, ev_nil, ev_cons, ev_frz, ev_b, ev_and, ev_or, ev_not, ev_andV, ev_orV, ev_notV, ev_if, ev_chain, ev_isi, ev_ixOwn, ev_lenOwn, ev_call, ev_callK, ev_sl, ev_part, ev_true, ev_nm, ev_toB, frz, frzAt, toSeq_tup, toSeq_lst, toSeq_cl, toRet, mWipe, kbG, Mir.gTup, Mir.gLst, List.getElem?_cons_zero, List.getElem?_cons_succ, List.set_cons_zero, List.set_cons_succ, List.length_cons, List.length_nil, List.append_nil, List.nil_append, List.cons_append, Nat.reduceAdd, Nat.reduceLeDiff, Nat.reduceEqDiff, Nat.zero_add, reduceIte, Bool.false_eq_true, Bool.not_true, Bool.not_false, and_self, sizeM_eq, ev_bindExc, ev_asg, ev_unTup, ev_unLst, ev_tupM, ev_gsCons, ev_gsNil, ev_raise, ev_tryL, ev_tryOk, ev_tryExc, ev_kin, ev_kget, ev_index, eqD_int, neD_int, gAddA, gAdd, gMulA, gMul, Mir.gSub, gFdiv, gMod, gLt, gLe, gGt, gGe, gLen, gInt, gAbs, gNeg, gIx, ez, gSl, Nat.zero_le, List.length_append, show (cutP [a, b, c] none (some i)).length + 1 ≤ 100000 by omega, show (cutP [a, b, c] none (some i)).length + 1 + (cutP [a, b, c] (some (i + 1)) none).length ≤ 100000 by omega]
      · rcases List.mem_append.mp hq with hq | hq
        · rcases List.mem_append.mp hq with hq | hq
          · exact clean_cut cabc _ _ q hq
          · rw [List.mem_singleton.mp hq]; exact hv
        · exact clean_cut cabc _ _ q hq) [.val (.obj 0), .val t2, .val (.lst ps), s3, .val (.lst [PV.int 3, .int (-1), .bl true, .non, .str "0", .tup [], .tup [.int 0, .int 1], .tup [.int 0, .int 1, .int 2, .int 0], .lst [.int 0, .int 1, .int 2], .int 0, .int 1, .int 2, .tup [.int 0, .int 0, .int 1], .tup [.int 2, .int 1, .int 0]]), .val y, .none, s7] S3 ⟨y, _, _, _, rfl, rfl, cy⟩
  refine ⟨v, S4, ?_, g3, hv⟩
  show (b__law_bent [.val (.obj 0), .val t, .none, .none, .none, .none, .none, .none] S).bind toRet = _
  unfold b__law_bent
  unfold rng B_b1 at e2
  unfold rng B_b2 at e4
  rw [d_take] at e2 ⊢
  simp only [ev_bind, ev_nox, ev_seq, ev_set, ev_setOwn, ev_share, ev_drop, ev_ret, ev_retOwn, ev_skip, ev_brk, ev_cnt, ev_ifS, ev_frzS, ev_append, ev_setIx, ev_for, ev_lc, ev_seqOf, ev_range, ev_var, ev_c, ev_op, ev_un, ev_args, ev_nil, ev_cons, ev_frz, ev_b, ev_and, ev_or, ev_not, ev_andV, ev_orV, ev_notV, ev_if, ev_chain, ev_isi, ev_ixOwn, ev_lenOwn, ev_call, ev_callK, ev_sl, ev_part, ev_true, ev_nm, ev_toB, frz, frzAt, toSeq_tup, toSeq_lst, toSeq_cl, toRet, mWipe, kbG, Mir.gTup, Mir.gLst, List.getElem?_cons_zero, List.getElem?_cons_succ, List.set_cons_zero, List.set_cons_succ, List.length_cons, List.length_nil, List.append_nil, List.nil_append, List.cons_append, Nat.reduceAdd, Nat.reduceLeDiff, Nat.reduceEqDiff, Nat.zero_add, reduceIte, Bool.false_eq_true, Bool.not_true, Bool.not_false, and_self, sizeM_eq, gAddA, gAdd, gMulA, gMul, Mir.gSub, gFdiv, gMod, gLt, gLe, gGt, gGe, gLen, gInt, gAbs, gNeg, gNeg, e1, gRange1, range62_ok (i := (m : Int)) (by omega) (by omega), Int.toNat_natCast, e2, Nat.zero_le, e3, gIx, ey, range62_ok (i := (ps.length : Int)) (by omega) (by omega), e4]
theorem sm_word {w : Str} (h : w = "table" ∨ w = "wrong") : Sm (.str w) 20 0 := by
  rcases h with rfl | rfl
  · exact ⟨.str "table", rfl, by decide +kernel, by decide +kernel, by decide +kernel, by decide +kernel⟩
  · exact ⟨.str "wrong", rfl, by decide +kernel, by decide +kernel, by decide +kernel, by decide +kernel⟩
theorem repr_told {r : List Int} (T : Row8 r) (S : Store) : ∃ s, gRepr [.tup [.str "table", rowP r]] S = .ok (.str s) S := by
  refine sm_repr (w := (20 + 1) * 2) (k := 2) (sm_tup (w := 20) (k := 1) fun x hx => ?_) (by decide) (by decide) S
  simp only [List.mem_cons, List.not_mem_nil, or_false] at hx
  rcases hx with rfl | rfl
  · exact (sm_word (.inl rfl)).mono (Nat.le_refl _) (by decide)
  · exact (sm_row T.bits).mono (by rw [T.len]; decide) (Nat.le_refl _)
theorem str_ne (s : Str) (S : Store) : gEqD true (.str s) (.str s) S = .ok (.bl false) S := by
  rw [neD_str]
  simp
theorem two_ix {x y : PV} (b : Bool) (S : Store) : gIx (.lst [x, y]) (.int (if b then 1 else 0)) S = .ok (if b then y else x) S := by
  cases b <;> rfl
def B_t : Rho → Store → Res Out :=
    (mSeq (mSet 3 (mOp gIx (mFrz (mArgs gLst (mCons (mCall 2 (m__law_drawn_term 6) [] (mCons (mVar 0) (mCons (mC (.int 3)) mNil))) (mCons (mCall 2 m__law_deep [] (mCons (mVar 0) (mCons (mOp gAddA (mC (.int 11)) (mCall 2 m__law_take [] (mCons (mVar 0) (mCons (mC (.int 4)) mNil)))) mNil))) mNil)))) (mArgs gInt (mCons (mOp (gEqD false) (mVar 2) (mC (.int 3))) mNil))))
    (mSeq (mIfS (mAnd (mB (mOp gGt (mVar 2) (mC (.int 0)))) (mB (mOp gLt (mVar 2) (mC (.int 3)))))
    (mSet 3 (mCall 2 m__law_bent [] (mCons (mVar 0) (mCons (mVar 3) mNil))))
    mSkip)
    (mSeq (mSet 4 (mCall 2 m__law_told [] (mCons (mVar 1) (mCons (mVar 3) mNil))))
    (mIfS (mB (mCall 2 (m__law_is_term 20) [] (mCons (mVar 3) (mCons (mC (.int 12)) mNil))))
    (mIfS (mB (mOp (gEqD true) (mArgs gRepr (mCons (mVar 4) mNil)) (mArgs gRepr (mCons (mArgs Mir.gTup (mCons (mC (.str "table")) (mCons (mCall 2 (m__law_term_table 20) [] (mCons (mVar 1) (mCons (mVar 3) mNil))) mNil))) mNil))))
    (mRet (mC (.bl false)))
    mSkip)
    (mIfS (mB (mOp (gEqD true) (mVar 4) (mArgs Mir.gTup (mCons (mC (.str "none")) (mCons (mC (.str "term")) (mCons (mC (.bl true)) mNil))))))
    (mRet (mC (.bl false)))
    mSkip)))))
/-- the part of a turn behind its term -/
def B_t2 : Rho → Store → Res Out :=
    (mSeq (mSet 4 (mCall 2 m__law_told [] (mCons (mVar 1) (mCons (mVar 3) mNil))))
    (mIfS (mB (mCall 2 (m__law_is_term 20) [] (mCons (mVar 3) (mCons (mC (.int 12)) mNil))))
    (mIfS (mB (mOp (gEqD true) (mArgs gRepr (mCons (mVar 4) mNil)) (mArgs gRepr (mCons (mArgs Mir.gTup (mCons (mC (.str "table")) (mCons (mCall 2 (m__law_term_table 20) [] (mCons (mVar 1) (mCons (mVar 3) mNil))) mNil))) mNil))))
    (mRet (mC (.bl false)))
    mSkip)
    (mIfS (mB (mOp (gEqD true) (mVar 4) (mArgs Mir.gTup (mCons (mC (.str "none")) (mCons (mC (.str "term")) (mCons (mC (.bl true)) mNil))))))
    (mRet (mC (.bl false)))
    mSkip)))
end K07
set_option maxHeartbeats 4000000
namespace K07
open PySem L2 Mir
theorem t2_ok {r : List Int} (T : Row8 r) {v : PV} (hv : Clean v) (k : Int) (s4 : Slot) (S : Store) : B_t2 [.val (.obj 0), .val (rowP r), .val (.int k), .val v, s4] S = .ok (.nx [.val (.obj 0), .val (rowP r), .val (.int k), .val v, .val (toldP r v)]) S := by
  have h1 := told_eq T hv S
  have h2 : m__law_is_term 20 [v, .int 12] S = .ok (.bl (isT 12 v)) S := lawisterm_ok 12 20 v (by decide) hv S
  unfold B_t2
  simp only [ev_bind, ev_nox, ev_seq, ev_set, ev_setOwn, ev_share, ev_drop, ev_ret, ev_retOwn, ev_skip, ev_brk, ev_cnt, ev_ifS, ev_frzS, ev_append, ev_setIx, ev_for, ev_lc, ev_seqOf, ev_range, ev_var, ev_c, ev_op, ev_un, ev_args, ev_nil, ev_cons, ev_frz, ev_b, ev_and, ev_or, ev_not, ev_andV, ev_orV, ev_notV, ev_if, ev_chain, ev_isi, ev_ixOwn, ev_lenOwn, ev_call, ev_callK, ev_sl, ev_part, ev_true, ev_nm, ev_toB, frz, frzAt, toSeq_tup, toSeq_lst, toSeq_cl, toRet, mWipe, kbG, Mir.gTup, Mir.gLst, List.getElem?_cons_zero, List.getElem?_cons_succ, List.set_cons_zero, List.set_cons_succ, List.length_cons, List.length_nil, List.append_nil, List.nil_append, List.cons_append, Nat.reduceAdd, Nat.reduceLeDiff, Nat.reduceEqDiff, Nat.zero_add, reduceIte, Bool.false_eq_true, Bool.not_true, Bool.not_false, and_self, sizeM_eq, h1, h2]
  cases ht : isT 12 v with
  | true =>
    have e : toldP r v = .tup [.str "table", rowP (tbl r v)] := by unfold toldP; rw [if_pos ht]
    obtain ⟨s, hs⟩ := repr_told (tbl_row T 12 v ht) S
    simp only [ev_bind, ev_nox, ev_seq, ev_set, ev_setOwn, ev_share, ev_drop, ev_ret, ev_retOwn, ev_skip, ev_brk, ev_cnt, ev_ifS, ev_frzS, ev_append, ev_setIx, ev_for, ev_lc, ev_seqOf, ev_range, ev_var, ev_c, ev_op, ev_un, ev_args, ev_nil, ev_cons, ev_frz, ev_b, ev_and, ev_or, ev_not, ev_andV, ev_orV, ev_notV, ev_if, ev_chain, ev_isi, ev_ixOwn, ev_lenOwn, ev_call, ev_callK, ev_sl, ev_part, ev_true, ev_nm, ev_toB, frz, frzAt, toSeq_tup, toSeq_lst, toSeq_cl, toRet, mWipe, kbG, Mir.gTup, Mir.gLst, List.getElem?_cons_zero, List.getElem?_cons_succ, List.set_cons_zero, List.set_cons_succ, List.length_cons, List.length_nil, List.append_nil, List.nil_append, List.cons_append, Nat.reduceAdd, Nat.reduceLeDiff, Nat.reduceEqDiff, Nat.zero_add, reduceIte, Bool.false_eq_true, Bool.not_true, Bool.not_false, and_self, sizeM_eq, e, hs, lawtable_ok T 12 20 v (by decide) hv ht S, Nat.zero_le, str_ne]
  | false =>
    have e : toldP r v = .tup [.str "none", .str "term", .bl true] := by unfold toldP; rw [if_neg (by rw [ht]; decide)]
    have n : gEqD true (.tup [.str "none", .str "term", .bl true]) (.tup [.str "none", .str "term", .bl true]) S = .ok (.bl false) S := by kernel_rfl
    simp only [ev_bind, ev_nox, ev_seq, ev_set, ev_setOwn, ev_share, ev_drop, ev_ret, ev_retOwn, ev_skip, ev_brk, ev_cnt, ev_ifS, ev_frzS, ev_append, ev_setIx, ev_for, ev_lc, ev_seqOf, ev_range, ev_var, ev_c, ev_op, ev_un, ev_args, ev_nil, ev_cons, ev_frz, ev_b, ev_and, ev_or, ev_not, ev_andV, ev_orV, ev_notV, ev_if, ev_chain, ev_isi, ev_ixOwn, ev_lenOwn, ev_call, ev_callK, ev_sl, ev_part, ev_true, ev_nm, ev_toB, frz, frzAt, toSeq_tup, toSeq_lst, toSeq_cl, toRet, mWipe, kbG, Mir.gTup, Mir.gLst, List.getElem?_cons_zero, List.getElem?_cons_succ, List.set_cons_zero, List.set_cons_succ, List.length_cons, List.length_nil, List.append_nil, List.nil_append, List.cons_append, Nat.reduceAdd, Nat.reduceLeDiff, Nat.reduceEqDiff, Nat.zero_add, reduceIte, Bool.false_eq_true, Bool.not_true, Bool.not_false, and_self, sizeM_eq, e, n, Nat.zero_le]
theorem turn_ok {r : List Int} (T : Row8 r) {S : Store} (h : Hand S []) (k : Int) (s3 s4 : Slot) : ∃ v S', B_t [.val (.obj 0), .val (rowP r), .val (.int k), s3, s4] S = .ok (.nx [.val (.obj 0), .val (rowP r), .val (.int k), .val v, .val (toldP r v)]) S' ∧ Hand S' [] := by
  obtain ⟨a, S1, e1, g1, t1⟩ := drawn_ok 3 6 (by decide) h
  obtain ⟨i, S2, e2, g2, i0, i1⟩ := take_ok (many := 4) g1 (by decide)
  obtain ⟨n, hn, hn2⟩ : ∃ n : Nat, 11 + i = n ∧ n ≤ 1000 := ⟨(11 + i).toNat, by rw [Int.toNat_of_nonneg (by omega)], by omega⟩
  obtain ⟨b, S3, e3, g3, t3⟩ := deep_ok g2 hn2
  have tv : tree (if decide (k = 3) = true then b else a) = true := by split <;> assumption
  have e1' : m__law_drawn_term 6 [.obj 0, .int 3] S = .ok a S1 := e1
  by_cases hk : 0 < k ∧ k < 3
  · obtain ⟨v, S4, e4, g4, cv⟩ := bent_ok g3 tv
    refine ⟨v, S4, ?_, g4⟩
    have z := t2_ok T cv k s4 S4
    unfold B_t2 at z
    unfold B_t
    rw [d_take]
    simp only [ev_bind, ev_nox, ev_seq, ev_set, ev_setOwn, ev_share, ev_drop, ev_ret, ev_retOwn, ev_skip, ev_brk, ev_cnt, ev_ifS, ev_frzS, ev_append, ev_setIx, ev_for, ev_lc, ev_seqOf, ev_range, ev_var, ev_c, ev_op, ev_un, ev_args, ev_nil, ev_cons, ev_frz, ev_b, ev_and, ev_or, ev_not, ev_andV, ev_orV, ev_notV, ev_if, ev_chain, ev_isi, ev_ixOwn, ev_lenOwn, ev_call, ev_callK, ev_sl, ev_part, ev_true, ev_nm, ev_toB, frz, frzAt, toSeq_tup, toSeq_lst, toSeq_cl, toRet, mWipe, kbG, Mir.gTup, Mir.gLst, List.getElem?_cons_zero, List.getElem?_cons_succ, List.set_cons_zero, List.set_cons_succ, List.length_cons, List.length_nil, List.append_nil, List.nil_append, List.cons_append, Nat.reduceAdd, Nat.reduceLeDiff, Nat.reduceEqDiff, Nat.zero_add, reduceIte, Bool.false_eq_true, Bool.not_true, Bool.not_false, and_self, sizeM_eq, gAddA, gAdd, gMulA, gMul, Mir.gSub, gFdiv, gMod, gLt, gLe, gGt, gGe, gLen, gInt, gAbs, gNeg, e1', e2, hn, e3, eqD_int, two_ix, Nat.zero_le, decide_eq_true hk.1, decide_eq_true hk.2, e4]
    simp only [ev_bind, ev_nox, ev_seq, ev_set, ev_setOwn, ev_share, ev_drop, ev_ret, ev_retOwn, ev_skip, ev_brk, ev_cnt, ev_ifS, ev_frzS, ev_append, ev_setIx, ev_for, ev_lc, ev_seqOf, ev_range, ev_var, ev_c, ev_op, ev_un, ev_args, ev_nil, ev_cons, ev_frz, ev_b, ev_and, ev_or, ev_not, ev_andV, ev_orV, ev_notV, ev_if, ev_chain, ev_isi, ev_ixOwn, ev_lenOwn, ev_call, ev_callK, ev_sl, ev_part, ev_true, ev_nm, ev_toB, frz, frzAt, toSeq_tup, toSeq_lst, toSeq_cl, toRet, mWipe, kbG, Mir.gTup, Mir.gLst, List.getElem?_cons_zero, List.getElem?_cons_succ, List.set_cons_zero, List.set_cons_succ, List.length_cons, List.length_nil, List.append_nil, List.nil_append, List.cons_append, Nat.reduceAdd, Nat.reduceLeDiff, Nat.reduceEqDiff, Nat.zero_add, reduceIte, Bool.false_eq_true, Bool.not_true, Bool.not_false, and_self, sizeM_eq] at z
    exact z
  · refine ⟨if decide (k = 3) = true then b else a, S3, ?_, g3⟩
    have z := t2_ok T (tree_clean _ tv) k s4 S3
    unfold B_t2 at z
    unfold B_t
    rw [d_take]
    by_cases hk1 : 0 < k
    · have hk2 : ¬ k < 3 := fun q => hk ⟨hk1, q⟩
      simp only [ev_bind, ev_nox, ev_seq, ev_set, ev_setOwn, ev_share, ev_drop, ev_ret, ev_retOwn, ev_skip, ev_brk, ev_cnt, ev_ifS, ev_frzS, ev_append, ev_setIx, ev_for, ev_lc, ev_seqOf, ev_range, ev_var, ev_c, ev_op, ev_un, ev_args, ev_nil, ev_cons, ev_frz, ev_b, ev_and, ev_or, ev_not, ev_andV, ev_orV, ev_notV, ev_if, ev_chain, ev_isi, ev_ixOwn, ev_lenOwn, ev_call, ev_callK, ev_sl, ev_part, ev_true, ev_nm, ev_toB, frz, frzAt, toSeq_tup, toSeq_lst, toSeq_cl, toRet, mWipe, kbG, Mir.gTup, Mir.gLst, List.getElem?_cons_zero, List.getElem?_cons_succ, List.set_cons_zero, List.set_cons_succ, List.length_cons, List.length_nil, List.append_nil, List.nil_append, List.cons_append, Nat.reduceAdd, Nat.reduceLeDiff, Nat.reduceEqDiff, Nat.zero_add, reduceIte, Bool.false_eq_true, Bool.not_true, Bool.not_false, and_self, sizeM_eq, gAddA, gAdd, gMulA, gMul, Mir.gSub, gFdiv, gMod, gLt, gLe, gGt, gGe, gLen, gInt, gAbs, gNeg, e1', e2, hn, e3, eqD_int, two_ix, Nat.zero_le, decide_eq_true hk1, decide_eq_false hk2]
      simp only [ev_bind, ev_nox, ev_seq, ev_set, ev_setOwn, ev_share, ev_drop, ev_ret, ev_retOwn, ev_skip, ev_brk, ev_cnt, ev_ifS, ev_frzS, ev_append, ev_setIx, ev_for, ev_lc, ev_seqOf, ev_range, ev_var, ev_c, ev_op, ev_un, ev_args, ev_nil, ev_cons, ev_frz, ev_b, ev_and, ev_or, ev_not, ev_andV, ev_orV, ev_notV, ev_if, ev_chain, ev_isi, ev_ixOwn, ev_lenOwn, ev_call, ev_callK, ev_sl, ev_part, ev_true, ev_nm, ev_toB, frz, frzAt, toSeq_tup, toSeq_lst, toSeq_cl, toRet, mWipe, kbG, Mir.gTup, Mir.gLst, List.getElem?_cons_zero, List.getElem?_cons_succ, List.set_cons_zero, List.set_cons_succ, List.length_cons, List.length_nil, List.append_nil, List.nil_append, List.cons_append, Nat.reduceAdd, Nat.reduceLeDiff, Nat.reduceEqDiff, Nat.zero_add, reduceIte, Bool.false_eq_true, Bool.not_true, Bool.not_false, and_self, sizeM_eq] at z
      exact z
    · simp only [ev_bind, ev_nox, ev_seq, ev_set, ev_setOwn, ev_share, ev_drop, ev_ret, ev_retOwn, ev_skip, ev_brk, ev_cnt, ev_ifS, ev_frzS, ev_append, ev_setIx, ev_for, ev_lc, ev_seqOf, ev_range, ev_var, ev_c, ev_op, ev_un, ev_args, ev_nil, ev_cons, ev_frz, ev_b, ev_and, ev_or, ev_not, ev_andV, ev_orV, ev_notV, ev_if, ev_chain, ev_isi, ev_ixOwn, ev_lenOwn, ev_call, ev_callK, ev_sl, ev_part, ev_true, ev_nm, ev_toB, frz, frzAt, toSeq_tup, toSeq_lst, toSeq_cl, toRet, mWipe, kbG, Mir.gTup, Mir.gLst, List.getElem?_cons_zero, List.getElem?_cons_succ, List.set_cons_zero, List.set_cons_succ, List.length_cons, List.length_nil, List.append_nil, List.nil_append, List.cons_append, Nat.reduceAdd, Nat.reduceLeDiff, Nat.reduceEqDiff, Nat.zero_add, reduceIte, Bool.false_eq_true, Bool.not_true, Bool.not_false, and_self, sizeM_eq, gAddA, gAdd, gMulA, gMul, Mir.gSub, gFdiv, gMod, gLt, gLe, gGt, gGe, gLen, gInt, gAbs, gNeg, e1', e2, hn, e3, eqD_int, two_ix, Nat.zero_le, decide_eq_false hk1]
      simp only [ev_bind, ev_nox, ev_seq, ev_set, ev_setOwn, ev_share, ev_drop, ev_ret, ev_retOwn, ev_skip, ev_brk, ev_cnt, ev_ifS, ev_frzS, ev_append, ev_setIx, ev_for, ev_lc, ev_seqOf, ev_range, ev_var, ev_c, ev_op, ev_un, ev_args, ev_nil, ev_cons, ev_frz, ev_b, ev_and, ev_or, ev_not, ev_andV, ev_orV, ev_notV, ev_if, ev_chain, ev_isi, ev_ixOwn, ev_lenOwn, ev_call, ev_callK, ev_sl, ev_part, ev_true, ev_nm, ev_toB, frz, frzAt, toSeq_tup, toSeq_lst, toSeq_cl, toRet, mWipe, kbG, Mir.gTup, Mir.gLst, List.getElem?_cons_zero, List.getElem?_cons_succ, List.set_cons_zero, List.set_cons_succ, List.length_cons, List.length_nil, List.append_nil, List.nil_append, List.cons_append, Nat.reduceAdd, Nat.reduceLeDiff, Nat.reduceEqDiff, Nat.zero_add, reduceIte, Bool.false_eq_true, Bool.not_true, Bool.not_false, and_self, sizeM_eq] at z
      exact z
theorem termstold_ok {r : List Int} (T : Row8 r) {S : Store} (h : Hand S []) : ∃ S', m__law_terms_told [.obj 0, rowP r] S = .ok (.bl true) S' ∧ Hand S' [] := by
  obtain ⟨ρ', S2, e2, s2, s3, s4, rfl, g2⟩ := for_inv (g := gNm 2) (b := B_t) (xs := rng 4) (fun _ ρ S => ∃ s2 s3 s4, ρ = [.val (.obj 0), .val (rowP r), s2, s3, s4] ∧ Hand S []) (by
    rintro pre x post ρ S' ex ⟨s2, s3, s4, rfl, g⟩
    have hx : ∃ k : Nat, x = .int k := by
      have : x ∈ rng 4 := by rw [ex]; simp
      obtain ⟨k, hk, rfl⟩ := List.mem_map.mp this
      exact ⟨k, rfl⟩
    obtain ⟨k, rfl⟩ := hx
    obtain ⟨v, S3, e, g3⟩ := turn_ok T g k s3 s4
    exact ⟨_, S3, .inl e, _, _, _, rfl, g3⟩) [.val (.obj 0), .val (rowP r), .none, .none, .none] S ⟨_, _, _, rfl, h⟩
  refine ⟨S2, ?_, g2⟩
  show (b__law_terms_told [.val (.obj 0), .val (rowP r), .none, .none, .none] S).bind toRet = _
  unfold b__law_terms_told
  unfold rng B_t at e2
  have r4 : range62 4 = true := by decide
  simp only [ev_bind, ev_nox, ev_seq, ev_set, ev_setOwn, ev_share, ev_drop, ev_ret, ev_retOwn, ev_skip, ev_brk, ev_cnt, ev_ifS, ev_frzS, ev_append, ev_setIx, ev_for, ev_lc, ev_seqOf, ev_range, ev_var, ev_c, ev_op, ev_un, ev_args, ev_nil, ev_cons, ev_frz, ev_b, ev_and, ev_or, ev_not, ev_andV, ev_orV, ev_notV, ev_if, ev_chain, ev_isi, ev_ixOwn, ev_lenOwn, ev_call, ev_callK, ev_sl, ev_part, ev_true, ev_nm, ev_toB, frz, frzAt, toSeq_tup, toSeq_lst, toSeq_cl, toRet, mWipe, kbG, Mir.gTup, Mir.gLst, List.getElem?_cons_zero, List.getElem?_cons_succ, List.set_cons_zero, List.set_cons_succ, List.length_cons, List.length_nil, List.append_nil, List.nil_append, List.cons_append, Nat.reduceAdd, Nat.reduceLeDiff, Nat.reduceEqDiff, Nat.zero_add, reduceIte, Bool.false_eq_true, Bool.not_true, Bool.not_false, and_self, sizeM_eq, gRange1, r4, show (4 : Int).toNat = 4 from rfl, e2]
end K07
namespace K07
open PySem L2 Mir
/-- what term_of gives of a row: it is a plain one, or a word of the six and a tree with a size -/
def Termed (r : List Int) : Prop := (∀ S : Store, m__law_is_plain [rowP r] S = .ok (.bl true) S) ∨ ∃ w, w ∈ six ∧ ∃ t, ∃ k : Int, tree t = true ∧ ∀ S : Store, m__law_is_plain [rowP r] S = .ok (.bl false) S ∧ m_term_of [rowP r] S = .ok (.tup [.str w, t]) S ∧ m__law_size 20 [t] S = .ok (.int k) S
end K07
set_option maxHeartbeats 4000000
namespace K07
open PySem L2 Mir
theorem q_0 : Termed [0, 0, 0, 0, 0, 0, 0, 0] := .inr ⟨"all no", by decide, .tup [.int 0, .int 0, .int 0], 3, by decide, fun S => ⟨by kernel_rfl, by kernel_rfl, by kernel_rfl⟩⟩
theorem q_1 : Termed [1, 0, 0, 0, 0, 0, 0, 0] := .inr ⟨"or", by decide, .tup [.tup [.int 0, .int 0, .int 1], .tup [.int 0, .int 0, .int 1], .tup [.int 0, .int 0, .int 1]], 9, by decide, fun S => ⟨by kernel_rfl, by kernel_rfl, by kernel_rfl⟩⟩
theorem q_2 : Termed [0, 1, 0, 0, 0, 0, 0, 0] := .inr ⟨"all no", by decide, .tup [.int 0, .int 0, .int 0], 3, by decide, fun S => ⟨by kernel_rfl, by kernel_rfl, by kernel_rfl⟩⟩
theorem q_3 : Termed [1, 1, 0, 0, 0, 0, 0, 0] := .inr ⟨"or", by decide, .tup [.tup [.int 0, .int 1, .int 0], .tup [.int 0, .int 1, .int 0], .tup [.int 0, .int 1, .int 0]], 9, by decide, fun S => ⟨by kernel_rfl, by kernel_rfl, by kernel_rfl⟩⟩
theorem q_4 : Termed [0, 0, 1, 0, 0, 0, 0, 0] := .inr ⟨"all no", by decide, .tup [.int 0, .int 0, .int 0], 3, by decide, fun S => ⟨by kernel_rfl, by kernel_rfl, by kernel_rfl⟩⟩
theorem q_5 : Termed [1, 0, 1, 0, 0, 0, 0, 0] := .inr ⟨"or", by decide, .tup [.tup [.int 0, .int 0, .int 1], .tup [.int 0, .int 0, .int 1], .tup [.int 0, .int 0, .int 1]], 9, by decide, fun S => ⟨by kernel_rfl, by kernel_rfl, by kernel_rfl⟩⟩
theorem q_6 : Termed [0, 1, 1, 0, 0, 0, 0, 0] := .inr ⟨"all no", by decide, .tup [.int 0, .int 0, .int 0], 3, by decide, fun S => ⟨by kernel_rfl, by kernel_rfl, by kernel_rfl⟩⟩
theorem q_7 : Termed [1, 1, 1, 0, 0, 0, 0, 0] := .inr ⟨"or", by decide, .tup [.tup [.int 1, .int 0, .int 0], .tup [.int 1, .int 0, .int 0], .tup [.int 1, .int 0, .int 0]], 9, by decide, fun S => ⟨by kernel_rfl, by kernel_rfl, by kernel_rfl⟩⟩
theorem q_8 : Termed [0, 0, 0, 1, 0, 0, 0, 0] := .inr ⟨"all no", by decide, .tup [.int 0, .int 0, .int 0], 3, by decide, fun S => ⟨by kernel_rfl, by kernel_rfl, by kernel_rfl⟩⟩
theorem q_9 : Termed [1, 0, 0, 1, 0, 0, 0, 0] := .inr ⟨"or", by decide, .tup [.tup [.int 0, .int 0, .int 1], .tup [.int 0, .int 0, .int 1], .tup [.int 0, .int 0, .int 1]], 9, by decide, fun S => ⟨by kernel_rfl, by kernel_rfl, by kernel_rfl⟩⟩
theorem q_10 : Termed [0, 1, 0, 1, 0, 0, 0, 0] := .inr ⟨"all no", by decide, .tup [.int 0, .int 0, .int 0], 3, by decide, fun S => ⟨by kernel_rfl, by kernel_rfl, by kernel_rfl⟩⟩
theorem q_11 : Termed [1, 1, 0, 1, 0, 0, 0, 0] := .inr ⟨"or", by decide, .tup [.tup [.int 0, .int 1, .int 0], .tup [.int 0, .int 1, .int 0], .tup [.int 0, .int 1, .int 0]], 9, by decide, fun S => ⟨by kernel_rfl, by kernel_rfl, by kernel_rfl⟩⟩
theorem q_12 : Termed [0, 0, 1, 1, 0, 0, 0, 0] := .inr ⟨"all no", by decide, .tup [.int 0, .int 0, .int 0], 3, by decide, fun S => ⟨by kernel_rfl, by kernel_rfl, by kernel_rfl⟩⟩
theorem q_13 : Termed [1, 0, 1, 1, 0, 0, 0, 0] := .inr ⟨"or", by decide, .tup [.tup [.int 0, .int 0, .int 1], .tup [.int 0, .int 0, .int 1], .tup [.int 0, .int 0, .int 1]], 9, by decide, fun S => ⟨by kernel_rfl, by kernel_rfl, by kernel_rfl⟩⟩
theorem q_14 : Termed [0, 1, 1, 1, 0, 0, 0, 0] := .inr ⟨"all no", by decide, .tup [.int 0, .int 0, .int 0], 3, by decide, fun S => ⟨by kernel_rfl, by kernel_rfl, by kernel_rfl⟩⟩
theorem q_15 : Termed [1, 1, 1, 1, 0, 0, 0, 0] := .inl fun S => by kernel_rfl
theorem q_16 : Termed [0, 0, 0, 0, 1, 0, 0, 0] := .inr ⟨"all no", by decide, .tup [.int 0, .int 0, .int 0], 3, by decide, fun S => ⟨by kernel_rfl, by kernel_rfl, by kernel_rfl⟩⟩
theorem q_17 : Termed [1, 0, 0, 0, 1, 0, 0, 0] := .inr ⟨"or", by decide, .tup [.tup [.int 0, .int 0, .int 1], .tup [.int 0, .int 0, .int 1], .tup [.int 0, .int 0, .int 1]], 9, by decide, fun S => ⟨by kernel_rfl, by kernel_rfl, by kernel_rfl⟩⟩
theorem q_18 : Termed [0, 1, 0, 0, 1, 0, 0, 0] := .inr ⟨"all no", by decide, .tup [.int 0, .int 0, .int 0], 3, by decide, fun S => ⟨by kernel_rfl, by kernel_rfl, by kernel_rfl⟩⟩
theorem q_19 : Termed [1, 1, 0, 0, 1, 0, 0, 0] := .inr ⟨"or", by decide, .tup [.tup [.int 0, .int 1, .int 0], .tup [.int 0, .int 1, .int 0], .tup [.int 0, .int 1, .int 0]], 9, by decide, fun S => ⟨by kernel_rfl, by kernel_rfl, by kernel_rfl⟩⟩
theorem q_20 : Termed [0, 0, 1, 0, 1, 0, 0, 0] := .inr ⟨"all no", by decide, .tup [.int 0, .int 0, .int 0], 3, by decide, fun S => ⟨by kernel_rfl, by kernel_rfl, by kernel_rfl⟩⟩
theorem q_21 : Termed [1, 0, 1, 0, 1, 0, 0, 0] := .inr ⟨"or", by decide, .tup [.tup [.int 0, .int 0, .int 1], .tup [.int 0, .int 0, .int 1], .tup [.int 0, .int 0, .int 1]], 9, by decide, fun S => ⟨by kernel_rfl, by kernel_rfl, by kernel_rfl⟩⟩
theorem q_22 : Termed [0, 1, 1, 0, 1, 0, 0, 0] := .inr ⟨"all no", by decide, .tup [.int 0, .int 0, .int 0], 3, by decide, fun S => ⟨by kernel_rfl, by kernel_rfl, by kernel_rfl⟩⟩
theorem q_23 : Termed [1, 1, 1, 0, 1, 0, 0, 0] := .inr ⟨"majority", by decide, .tup [.tup [.int 0, .int 1, .int 2], .tup [.int 0, .int 1, .int 2], .tup [.int 0, .int 1, .int 2]], 9, by decide, fun S => ⟨by kernel_rfl, by kernel_rfl, by kernel_rfl⟩⟩
theorem q_24 : Termed [0, 0, 0, 1, 1, 0, 0, 0] := .inr ⟨"all no", by decide, .tup [.int 0, .int 0, .int 0], 3, by decide, fun S => ⟨by kernel_rfl, by kernel_rfl, by kernel_rfl⟩⟩
theorem q_25 : Termed [1, 0, 0, 1, 1, 0, 0, 0] := .inr ⟨"or", by decide, .tup [.tup [.int 0, .int 0, .int 1], .tup [.int 0, .int 0, .int 1], .tup [.int 0, .int 0, .int 1]], 9, by decide, fun S => ⟨by kernel_rfl, by kernel_rfl, by kernel_rfl⟩⟩
theorem q_26 : Termed [0, 1, 0, 1, 1, 0, 0, 0] := .inr ⟨"all no", by decide, .tup [.int 0, .int 0, .int 0], 3, by decide, fun S => ⟨by kernel_rfl, by kernel_rfl, by kernel_rfl⟩⟩
theorem q_27 : Termed [1, 1, 0, 1, 1, 0, 0, 0] := .inr ⟨"or", by decide, .tup [.tup [.int 0, .int 1, .int 0], .tup [.int 0, .int 1, .int 0], .tup [.int 0, .int 1, .int 0]], 9, by decide, fun S => ⟨by kernel_rfl, by kernel_rfl, by kernel_rfl⟩⟩
theorem q_28 : Termed [0, 0, 1, 1, 1, 0, 0, 0] := .inr ⟨"all no", by decide, .tup [.int 0, .int 0, .int 0], 3, by decide, fun S => ⟨by kernel_rfl, by kernel_rfl, by kernel_rfl⟩⟩
theorem q_29 : Termed [1, 0, 1, 1, 1, 0, 0, 0] := .inr ⟨"or", by decide, .tup [.tup [.int 0, .int 0, .int 1], .tup [.int 0, .int 0, .int 1], .tup [.int 0, .int 0, .int 1]], 9, by decide, fun S => ⟨by kernel_rfl, by kernel_rfl, by kernel_rfl⟩⟩
theorem q_30 : Termed [0, 1, 1, 1, 1, 0, 0, 0] := .inr ⟨"all no", by decide, .tup [.int 0, .int 0, .int 0], 3, by decide, fun S => ⟨by kernel_rfl, by kernel_rfl, by kernel_rfl⟩⟩
theorem q_31 : Termed [1, 1, 1, 1, 1, 0, 0, 0] := .inr ⟨"and", by decide, .tup [.tup [.int 1, .int 0, .int 0], .tup [.int 1, .int 0, .int 0], .tup [.int 1, .int 0, .int 0]], 9, by decide, fun S => ⟨by kernel_rfl, by kernel_rfl, by kernel_rfl⟩⟩
theorem q_32 : Termed [0, 0, 0, 0, 0, 1, 0, 0] := .inr ⟨"all no", by decide, .tup [.int 0, .int 0, .int 0], 3, by decide, fun S => ⟨by kernel_rfl, by kernel_rfl, by kernel_rfl⟩⟩
theorem q_33 : Termed [1, 0, 0, 0, 0, 1, 0, 0] := .inr ⟨"or", by decide, .tup [.tup [.int 0, .int 0, .int 1], .tup [.int 0, .int 0, .int 1], .tup [.int 0, .int 0, .int 1]], 9, by decide, fun S => ⟨by kernel_rfl, by kernel_rfl, by kernel_rfl⟩⟩
theorem q_34 : Termed [0, 1, 0, 0, 0, 1, 0, 0] := .inr ⟨"all no", by decide, .tup [.int 0, .int 0, .int 0], 3, by decide, fun S => ⟨by kernel_rfl, by kernel_rfl, by kernel_rfl⟩⟩
theorem q_35 : Termed [1, 1, 0, 0, 0, 1, 0, 0] := .inr ⟨"or", by decide, .tup [.tup [.int 1, .int 0, .int 0], .tup [.int 1, .int 0, .int 0], .tup [.int 1, .int 0, .int 0]], 9, by decide, fun S => ⟨by kernel_rfl, by kernel_rfl, by kernel_rfl⟩⟩
theorem q_36 : Termed [0, 0, 1, 0, 0, 1, 0, 0] := .inr ⟨"all no", by decide, .tup [.int 0, .int 0, .int 0], 3, by decide, fun S => ⟨by kernel_rfl, by kernel_rfl, by kernel_rfl⟩⟩
theorem q_37 : Termed [1, 0, 1, 0, 0, 1, 0, 0] := .inr ⟨"or", by decide, .tup [.tup [.int 0, .int 0, .int 1], .tup [.int 0, .int 0, .int 1], .tup [.int 0, .int 0, .int 1]], 9, by decide, fun S => ⟨by kernel_rfl, by kernel_rfl, by kernel_rfl⟩⟩
theorem q_38 : Termed [0, 1, 1, 0, 0, 1, 0, 0] := .inr ⟨"all no", by decide, .tup [.int 0, .int 0, .int 0], 3, by decide, fun S => ⟨by kernel_rfl, by kernel_rfl, by kernel_rfl⟩⟩
theorem q_39 : Termed [1, 1, 1, 0, 0, 1, 0, 0] := .inr ⟨"and", by decide, .tup [.tup [.int 0, .int 1, .int 0], .tup [.int 0, .int 1, .int 0], .tup [.int 0, .int 1, .int 0]], 9, by decide, fun S => ⟨by kernel_rfl, by kernel_rfl, by kernel_rfl⟩⟩
theorem q_40 : Termed [0, 0, 0, 1, 0, 1, 0, 0] := .inr ⟨"all no", by decide, .tup [.int 0, .int 0, .int 0], 3, by decide, fun S => ⟨by kernel_rfl, by kernel_rfl, by kernel_rfl⟩⟩
theorem q_41 : Termed [1, 0, 0, 1, 0, 1, 0, 0] := .inr ⟨"or", by decide, .tup [.tup [.int 0, .int 0, .int 1], .tup [.int 0, .int 0, .int 1], .tup [.int 0, .int 0, .int 1]], 9, by decide, fun S => ⟨by kernel_rfl, by kernel_rfl, by kernel_rfl⟩⟩
theorem q_42 : Termed [0, 1, 0, 1, 0, 1, 0, 0] := .inr ⟨"all no", by decide, .tup [.int 0, .int 0, .int 0], 3, by decide, fun S => ⟨by kernel_rfl, by kernel_rfl, by kernel_rfl⟩⟩
theorem q_43 : Termed [1, 1, 0, 1, 0, 1, 0, 0] := .inr ⟨"majority", by decide, .tup [.tup [.int 0, .int 1, .tup [.tup [.int 0, .int 1, .int 2], .tup [.int 0, .int 1, .int 2], .tup [.int 0, .int 1, .int 2]]], .tup [.int 0, .int 1, .tup [.tup [.int 0, .int 1, .int 2], .tup [.int 0, .int 1, .int 2], .tup [.int 0, .int 1, .int 2]]], .tup [.int 0, .int 1, .tup [.tup [.int 0, .int 1, .int 2], .tup [.int 0, .int 1, .int 2], .tup [.int 0, .int 1, .int 2]]]], 33, by decide, fun S => ⟨by kernel_rfl, by kernel_rfl, by kernel_rfl⟩⟩
theorem q_44 : Termed [0, 0, 1, 1, 0, 1, 0, 0] := .inr ⟨"all no", by decide, .tup [.int 0, .int 0, .int 0], 3, by decide, fun S => ⟨by kernel_rfl, by kernel_rfl, by kernel_rfl⟩⟩
theorem q_45 : Termed [1, 0, 1, 1, 0, 1, 0, 0] := .inr ⟨"or", by decide, .tup [.tup [.int 0, .int 0, .int 1], .tup [.int 0, .int 0, .int 1], .tup [.int 0, .int 0, .int 1]], 9, by decide, fun S => ⟨by kernel_rfl, by kernel_rfl, by kernel_rfl⟩⟩
theorem q_46 : Termed [0, 1, 1, 1, 0, 1, 0, 0] := .inr ⟨"all no", by decide, .tup [.int 0, .int 0, .int 0], 3, by decide, fun S => ⟨by kernel_rfl, by kernel_rfl, by kernel_rfl⟩⟩
theorem q_47 : Termed [1, 1, 1, 1, 0, 1, 0, 0] := .inr ⟨"and", by decide, .tup [.tup [.int 0, .int 1, .int 0], .tup [.int 0, .int 1, .int 0], .tup [.int 0, .int 1, .int 0]], 9, by decide, fun S => ⟨by kernel_rfl, by kernel_rfl, by kernel_rfl⟩⟩
theorem q_48 : Termed [0, 0, 0, 0, 1, 1, 0, 0] := .inr ⟨"all no", by decide, .tup [.int 0, .int 0, .int 0], 3, by decide, fun S => ⟨by kernel_rfl, by kernel_rfl, by kernel_rfl⟩⟩
theorem q_49 : Termed [1, 0, 0, 0, 1, 1, 0, 0] := .inr ⟨"or", by decide, .tup [.tup [.int 0, .int 0, .int 1], .tup [.int 0, .int 0, .int 1], .tup [.int 0, .int 0, .int 1]], 9, by decide, fun S => ⟨by kernel_rfl, by kernel_rfl, by kernel_rfl⟩⟩
theorem q_50 : Termed [0, 1, 0, 0, 1, 1, 0, 0] := .inr ⟨"all no", by decide, .tup [.int 0, .int 0, .int 0], 3, by decide, fun S => ⟨by kernel_rfl, by kernel_rfl, by kernel_rfl⟩⟩
theorem q_51 : Termed [1, 1, 0, 0, 1, 1, 0, 0] := .inl fun S => by kernel_rfl
theorem q_52 : Termed [0, 0, 1, 0, 1, 1, 0, 0] := .inr ⟨"all no", by decide, .tup [.int 0, .int 0, .int 0], 3, by decide, fun S => ⟨by kernel_rfl, by kernel_rfl, by kernel_rfl⟩⟩
theorem q_53 : Termed [1, 0, 1, 0, 1, 1, 0, 0] := .inr ⟨"or", by decide, .tup [.tup [.int 0, .int 0, .int 1], .tup [.int 0, .int 0, .int 1], .tup [.int 0, .int 0, .int 1]], 9, by decide, fun S => ⟨by kernel_rfl, by kernel_rfl, by kernel_rfl⟩⟩
theorem q_54 : Termed [0, 1, 1, 0, 1, 1, 0, 0] := .inr ⟨"all no", by decide, .tup [.int 0, .int 0, .int 0], 3, by decide, fun S => ⟨by kernel_rfl, by kernel_rfl, by kernel_rfl⟩⟩
theorem q_55 : Termed [1, 1, 1, 0, 1, 1, 0, 0] := .inr ⟨"and", by decide, .tup [.tup [.int 0, .int 1, .int 0], .tup [.int 0, .int 1, .int 0], .tup [.int 0, .int 1, .int 0]], 9, by decide, fun S => ⟨by kernel_rfl, by kernel_rfl, by kernel_rfl⟩⟩
theorem q_56 : Termed [0, 0, 0, 1, 1, 1, 0, 0] := .inr ⟨"all no", by decide, .tup [.int 0, .int 0, .int 0], 3, by decide, fun S => ⟨by kernel_rfl, by kernel_rfl, by kernel_rfl⟩⟩
theorem q_57 : Termed [1, 0, 0, 1, 1, 1, 0, 0] := .inr ⟨"or", by decide, .tup [.tup [.int 0, .int 0, .int 1], .tup [.int 0, .int 0, .int 1], .tup [.int 0, .int 0, .int 1]], 9, by decide, fun S => ⟨by kernel_rfl, by kernel_rfl, by kernel_rfl⟩⟩
theorem q_58 : Termed [0, 1, 0, 1, 1, 1, 0, 0] := .inr ⟨"all no", by decide, .tup [.int 0, .int 0, .int 0], 3, by decide, fun S => ⟨by kernel_rfl, by kernel_rfl, by kernel_rfl⟩⟩
theorem q_59 : Termed [1, 1, 0, 1, 1, 1, 0, 0] := .inr ⟨"and", by decide, .tup [.tup [.int 1, .int 0, .int 0], .tup [.int 1, .int 0, .int 0], .tup [.int 1, .int 0, .int 0]], 9, by decide, fun S => ⟨by kernel_rfl, by kernel_rfl, by kernel_rfl⟩⟩
theorem q_60 : Termed [0, 0, 1, 1, 1, 1, 0, 0] := .inr ⟨"all no", by decide, .tup [.int 0, .int 0, .int 0], 3, by decide, fun S => ⟨by kernel_rfl, by kernel_rfl, by kernel_rfl⟩⟩
theorem q_61 : Termed [1, 0, 1, 1, 1, 1, 0, 0] := .inr ⟨"or", by decide, .tup [.tup [.int 0, .int 0, .int 1], .tup [.int 0, .int 0, .int 1], .tup [.int 0, .int 0, .int 1]], 9, by decide, fun S => ⟨by kernel_rfl, by kernel_rfl, by kernel_rfl⟩⟩
theorem q_62 : Termed [0, 1, 1, 1, 1, 1, 0, 0] := .inr ⟨"all no", by decide, .tup [.int 0, .int 0, .int 0], 3, by decide, fun S => ⟨by kernel_rfl, by kernel_rfl, by kernel_rfl⟩⟩
theorem q_63 : Termed [1, 1, 1, 1, 1, 1, 0, 0] := .inr ⟨"and", by decide, .tup [.tup [.int 0, .int 1, .int 0], .tup [.int 0, .int 1, .int 0], .tup [.int 0, .int 1, .int 0]], 9, by decide, fun S => ⟨by kernel_rfl, by kernel_rfl, by kernel_rfl⟩⟩
end K07
set_option maxHeartbeats 4000000
namespace K07
open PySem L2 Mir
theorem q_64 : Termed [0, 0, 0, 0, 0, 0, 1, 0] := .inr ⟨"all no", by decide, .tup [.int 0, .int 0, .int 0], 3, by decide, fun S => ⟨by kernel_rfl, by kernel_rfl, by kernel_rfl⟩⟩
theorem q_65 : Termed [1, 0, 0, 0, 0, 0, 1, 0] := .inr ⟨"or", by decide, .tup [.tup [.int 0, .int 1, .int 0], .tup [.int 0, .int 1, .int 0], .tup [.int 0, .int 1, .int 0]], 9, by decide, fun S => ⟨by kernel_rfl, by kernel_rfl, by kernel_rfl⟩⟩
theorem q_66 : Termed [0, 1, 0, 0, 0, 0, 1, 0] := .inr ⟨"all no", by decide, .tup [.int 0, .int 0, .int 0], 3, by decide, fun S => ⟨by kernel_rfl, by kernel_rfl, by kernel_rfl⟩⟩
theorem q_67 : Termed [1, 1, 0, 0, 0, 0, 1, 0] := .inr ⟨"and", by decide, .tup [.tup [.int 0, .int 0, .int 1], .tup [.int 0, .int 0, .int 1], .tup [.int 0, .int 0, .int 1]], 9, by decide, fun S => ⟨by kernel_rfl, by kernel_rfl, by kernel_rfl⟩⟩
theorem q_68 : Termed [0, 0, 1, 0, 0, 0, 1, 0] := .inr ⟨"all no", by decide, .tup [.int 0, .int 0, .int 0], 3, by decide, fun S => ⟨by kernel_rfl, by kernel_rfl, by kernel_rfl⟩⟩
theorem q_69 : Termed [1, 0, 1, 0, 0, 0, 1, 0] := .inr ⟨"or", by decide, .tup [.tup [.int 1, .int 0, .int 0], .tup [.int 1, .int 0, .int 0], .tup [.int 1, .int 0, .int 0]], 9, by decide, fun S => ⟨by kernel_rfl, by kernel_rfl, by kernel_rfl⟩⟩
theorem q_70 : Termed [0, 1, 1, 0, 0, 0, 1, 0] := .inr ⟨"all no", by decide, .tup [.int 0, .int 0, .int 0], 3, by decide, fun S => ⟨by kernel_rfl, by kernel_rfl, by kernel_rfl⟩⟩
theorem q_71 : Termed [1, 1, 1, 0, 0, 0, 1, 0] := .inr ⟨"and", by decide, .tup [.tup [.int 0, .int 0, .int 1], .tup [.int 0, .int 0, .int 1], .tup [.int 0, .int 0, .int 1]], 9, by decide, fun S => ⟨by kernel_rfl, by kernel_rfl, by kernel_rfl⟩⟩
theorem q_72 : Termed [0, 0, 0, 1, 0, 0, 1, 0] := .inr ⟨"all no", by decide, .tup [.int 0, .int 0, .int 0], 3, by decide, fun S => ⟨by kernel_rfl, by kernel_rfl, by kernel_rfl⟩⟩
theorem q_73 : Termed [1, 0, 0, 1, 0, 0, 1, 0] := .inr ⟨"or", by decide, .tup [.tup [.int 0, .int 1, .int 0], .tup [.int 0, .int 1, .int 0], .tup [.int 0, .int 1, .int 0]], 9, by decide, fun S => ⟨by kernel_rfl, by kernel_rfl, by kernel_rfl⟩⟩
theorem q_74 : Termed [0, 1, 0, 1, 0, 0, 1, 0] := .inr ⟨"all no", by decide, .tup [.int 0, .int 0, .int 0], 3, by decide, fun S => ⟨by kernel_rfl, by kernel_rfl, by kernel_rfl⟩⟩
theorem q_75 : Termed [1, 1, 0, 1, 0, 0, 1, 0] := .inr ⟨"and", by decide, .tup [.tup [.int 0, .int 0, .int 1], .tup [.int 0, .int 0, .int 1], .tup [.int 0, .int 0, .int 1]], 9, by decide, fun S => ⟨by kernel_rfl, by kernel_rfl, by kernel_rfl⟩⟩
theorem q_76 : Termed [0, 0, 1, 1, 0, 0, 1, 0] := .inr ⟨"all no", by decide, .tup [.int 0, .int 0, .int 0], 3, by decide, fun S => ⟨by kernel_rfl, by kernel_rfl, by kernel_rfl⟩⟩
theorem q_77 : Termed [1, 0, 1, 1, 0, 0, 1, 0] := .inr ⟨"majority", by decide, .tup [.tup [.int 0, .tup [.tup [.int 0, .int 1, .int 2], .tup [.int 0, .int 1, .int 2], .tup [.int 0, .int 1, .int 2]], .int 2], .tup [.int 0, .tup [.tup [.int 0, .int 1, .int 2], .tup [.int 0, .int 1, .int 2], .tup [.int 0, .int 1, .int 2]], .int 2], .tup [.int 0, .tup [.tup [.int 0, .int 1, .int 2], .tup [.int 0, .int 1, .int 2], .tup [.int 0, .int 1, .int 2]], .int 2]], 33, by decide, fun S => ⟨by kernel_rfl, by kernel_rfl, by kernel_rfl⟩⟩
theorem q_78 : Termed [0, 1, 1, 1, 0, 0, 1, 0] := .inr ⟨"all no", by decide, .tup [.int 0, .int 0, .int 0], 3, by decide, fun S => ⟨by kernel_rfl, by kernel_rfl, by kernel_rfl⟩⟩
theorem q_79 : Termed [1, 1, 1, 1, 0, 0, 1, 0] := .inr ⟨"and", by decide, .tup [.tup [.int 0, .int 0, .int 1], .tup [.int 0, .int 0, .int 1], .tup [.int 0, .int 0, .int 1]], 9, by decide, fun S => ⟨by kernel_rfl, by kernel_rfl, by kernel_rfl⟩⟩
theorem q_80 : Termed [0, 0, 0, 0, 1, 0, 1, 0] := .inr ⟨"all no", by decide, .tup [.int 0, .int 0, .int 0], 3, by decide, fun S => ⟨by kernel_rfl, by kernel_rfl, by kernel_rfl⟩⟩
theorem q_81 : Termed [1, 0, 0, 0, 1, 0, 1, 0] := .inr ⟨"or", by decide, .tup [.tup [.int 0, .int 1, .int 0], .tup [.int 0, .int 1, .int 0], .tup [.int 0, .int 1, .int 0]], 9, by decide, fun S => ⟨by kernel_rfl, by kernel_rfl, by kernel_rfl⟩⟩
theorem q_82 : Termed [0, 1, 0, 0, 1, 0, 1, 0] := .inr ⟨"all no", by decide, .tup [.int 0, .int 0, .int 0], 3, by decide, fun S => ⟨by kernel_rfl, by kernel_rfl, by kernel_rfl⟩⟩
theorem q_83 : Termed [1, 1, 0, 0, 1, 0, 1, 0] := .inr ⟨"and", by decide, .tup [.tup [.int 0, .int 0, .int 1], .tup [.int 0, .int 0, .int 1], .tup [.int 0, .int 0, .int 1]], 9, by decide, fun S => ⟨by kernel_rfl, by kernel_rfl, by kernel_rfl⟩⟩
theorem q_84 : Termed [0, 0, 1, 0, 1, 0, 1, 0] := .inr ⟨"all no", by decide, .tup [.int 0, .int 0, .int 0], 3, by decide, fun S => ⟨by kernel_rfl, by kernel_rfl, by kernel_rfl⟩⟩
theorem q_85 : Termed [1, 0, 1, 0, 1, 0, 1, 0] := .inl fun S => by kernel_rfl
theorem q_86 : Termed [0, 1, 1, 0, 1, 0, 1, 0] := .inr ⟨"all no", by decide, .tup [.int 0, .int 0, .int 0], 3, by decide, fun S => ⟨by kernel_rfl, by kernel_rfl, by kernel_rfl⟩⟩
theorem q_87 : Termed [1, 1, 1, 0, 1, 0, 1, 0] := .inr ⟨"and", by decide, .tup [.tup [.int 0, .int 0, .int 1], .tup [.int 0, .int 0, .int 1], .tup [.int 0, .int 0, .int 1]], 9, by decide, fun S => ⟨by kernel_rfl, by kernel_rfl, by kernel_rfl⟩⟩
theorem q_88 : Termed [0, 0, 0, 1, 1, 0, 1, 0] := .inr ⟨"all no", by decide, .tup [.int 0, .int 0, .int 0], 3, by decide, fun S => ⟨by kernel_rfl, by kernel_rfl, by kernel_rfl⟩⟩
theorem q_89 : Termed [1, 0, 0, 1, 1, 0, 1, 0] := .inr ⟨"or", by decide, .tup [.tup [.int 0, .int 1, .int 0], .tup [.int 0, .int 1, .int 0], .tup [.int 0, .int 1, .int 0]], 9, by decide, fun S => ⟨by kernel_rfl, by kernel_rfl, by kernel_rfl⟩⟩
theorem q_90 : Termed [0, 1, 0, 1, 1, 0, 1, 0] := .inr ⟨"all no", by decide, .tup [.int 0, .int 0, .int 0], 3, by decide, fun S => ⟨by kernel_rfl, by kernel_rfl, by kernel_rfl⟩⟩
theorem q_91 : Termed [1, 1, 0, 1, 1, 0, 1, 0] := .inr ⟨"and", by decide, .tup [.tup [.int 0, .int 0, .int 1], .tup [.int 0, .int 0, .int 1], .tup [.int 0, .int 0, .int 1]], 9, by decide, fun S => ⟨by kernel_rfl, by kernel_rfl, by kernel_rfl⟩⟩
theorem q_92 : Termed [0, 0, 1, 1, 1, 0, 1, 0] := .inr ⟨"all no", by decide, .tup [.int 0, .int 0, .int 0], 3, by decide, fun S => ⟨by kernel_rfl, by kernel_rfl, by kernel_rfl⟩⟩
theorem q_93 : Termed [1, 0, 1, 1, 1, 0, 1, 0] := .inr ⟨"and", by decide, .tup [.tup [.int 1, .int 0, .int 0], .tup [.int 1, .int 0, .int 0], .tup [.int 1, .int 0, .int 0]], 9, by decide, fun S => ⟨by kernel_rfl, by kernel_rfl, by kernel_rfl⟩⟩
theorem q_94 : Termed [0, 1, 1, 1, 1, 0, 1, 0] := .inr ⟨"all no", by decide, .tup [.int 0, .int 0, .int 0], 3, by decide, fun S => ⟨by kernel_rfl, by kernel_rfl, by kernel_rfl⟩⟩
theorem q_95 : Termed [1, 1, 1, 1, 1, 0, 1, 0] := .inr ⟨"and", by decide, .tup [.tup [.int 0, .int 0, .int 1], .tup [.int 0, .int 0, .int 1], .tup [.int 0, .int 0, .int 1]], 9, by decide, fun S => ⟨by kernel_rfl, by kernel_rfl, by kernel_rfl⟩⟩
theorem q_96 : Termed [0, 0, 0, 0, 0, 1, 1, 0] := .inr ⟨"all no", by decide, .tup [.int 0, .int 0, .int 0], 3, by decide, fun S => ⟨by kernel_rfl, by kernel_rfl, by kernel_rfl⟩⟩
theorem q_97 : Termed [1, 0, 0, 0, 0, 1, 1, 0] := .inr ⟨"or", by decide, .tup [.tup [.int 1, .int 0, .int 0], .tup [.int 1, .int 0, .int 0], .tup [.int 1, .int 0, .int 0]], 9, by decide, fun S => ⟨by kernel_rfl, by kernel_rfl, by kernel_rfl⟩⟩
theorem q_98 : Termed [0, 1, 0, 0, 0, 1, 1, 0] := .inr ⟨"all no", by decide, .tup [.int 0, .int 0, .int 0], 3, by decide, fun S => ⟨by kernel_rfl, by kernel_rfl, by kernel_rfl⟩⟩
theorem q_99 : Termed [1, 1, 0, 0, 0, 1, 1, 0] := .inr ⟨"and", by decide, .tup [.tup [.int 0, .int 0, .int 1], .tup [.int 0, .int 0, .int 1], .tup [.int 0, .int 0, .int 1]], 9, by decide, fun S => ⟨by kernel_rfl, by kernel_rfl, by kernel_rfl⟩⟩
theorem q_100 : Termed [0, 0, 1, 0, 0, 1, 1, 0] := .inr ⟨"all no", by decide, .tup [.int 0, .int 0, .int 0], 3, by decide, fun S => ⟨by kernel_rfl, by kernel_rfl, by kernel_rfl⟩⟩
theorem q_101 : Termed [1, 0, 1, 0, 0, 1, 1, 0] := .inr ⟨"and", by decide, .tup [.tup [.int 0, .int 1, .int 0], .tup [.int 0, .int 1, .int 0], .tup [.int 0, .int 1, .int 0]], 9, by decide, fun S => ⟨by kernel_rfl, by kernel_rfl, by kernel_rfl⟩⟩
theorem q_102 : Termed [0, 1, 1, 0, 0, 1, 1, 0] := .inr ⟨"all no", by decide, .tup [.int 0, .int 0, .int 0], 3, by decide, fun S => ⟨by kernel_rfl, by kernel_rfl, by kernel_rfl⟩⟩
theorem q_103 : Termed [1, 1, 1, 0, 0, 1, 1, 0] := .inr ⟨"and", by decide, .tup [.tup [.int 0, .int 0, .int 1], .tup [.int 0, .int 0, .int 1], .tup [.int 0, .int 0, .int 1]], 9, by decide, fun S => ⟨by kernel_rfl, by kernel_rfl, by kernel_rfl⟩⟩
theorem q_104 : Termed [0, 0, 0, 1, 0, 1, 1, 0] := .inr ⟨"all no", by decide, .tup [.int 0, .int 0, .int 0], 3, by decide, fun S => ⟨by kernel_rfl, by kernel_rfl, by kernel_rfl⟩⟩
theorem q_105 : Termed [1, 0, 0, 1, 0, 1, 1, 0] := .inr ⟨"odd one", by decide, .tup [.tup [.int 0, .int 1, .int 2], .tup [.int 0, .int 1, .int 2], .tup [.int 0, .int 1, .int 2]], 9, by decide, fun S => ⟨by kernel_rfl, by kernel_rfl, by kernel_rfl⟩⟩
theorem q_106 : Termed [0, 1, 0, 1, 0, 1, 1, 0] := .inr ⟨"all no", by decide, .tup [.int 0, .int 0, .int 0], 3, by decide, fun S => ⟨by kernel_rfl, by kernel_rfl, by kernel_rfl⟩⟩
theorem q_107 : Termed [1, 1, 0, 1, 0, 1, 1, 0] := .inr ⟨"and", by decide, .tup [.tup [.int 0, .int 0, .int 1], .tup [.int 0, .int 0, .int 1], .tup [.int 0, .int 0, .int 1]], 9, by decide, fun S => ⟨by kernel_rfl, by kernel_rfl, by kernel_rfl⟩⟩
theorem q_108 : Termed [0, 0, 1, 1, 0, 1, 1, 0] := .inr ⟨"all no", by decide, .tup [.int 0, .int 0, .int 0], 3, by decide, fun S => ⟨by kernel_rfl, by kernel_rfl, by kernel_rfl⟩⟩
theorem q_109 : Termed [1, 0, 1, 1, 0, 1, 1, 0] := .inr ⟨"and", by decide, .tup [.tup [.int 0, .int 1, .int 0], .tup [.int 0, .int 1, .int 0], .tup [.int 0, .int 1, .int 0]], 9, by decide, fun S => ⟨by kernel_rfl, by kernel_rfl, by kernel_rfl⟩⟩
theorem q_110 : Termed [0, 1, 1, 1, 0, 1, 1, 0] := .inr ⟨"all no", by decide, .tup [.int 0, .int 0, .int 0], 3, by decide, fun S => ⟨by kernel_rfl, by kernel_rfl, by kernel_rfl⟩⟩
theorem q_111 : Termed [1, 1, 1, 1, 0, 1, 1, 0] := .inr ⟨"and", by decide, .tup [.tup [.int 0, .int 0, .int 1], .tup [.int 0, .int 0, .int 1], .tup [.int 0, .int 0, .int 1]], 9, by decide, fun S => ⟨by kernel_rfl, by kernel_rfl, by kernel_rfl⟩⟩
theorem q_112 : Termed [0, 0, 0, 0, 1, 1, 1, 0] := .inr ⟨"all no", by decide, .tup [.int 0, .int 0, .int 0], 3, by decide, fun S => ⟨by kernel_rfl, by kernel_rfl, by kernel_rfl⟩⟩
theorem q_113 : Termed [1, 0, 0, 0, 1, 1, 1, 0] := .inr ⟨"majority", by decide, .tup [.tup [.tup [.tup [.int 0, .int 1, .int 2], .tup [.int 0, .int 1, .int 2], .tup [.int 0, .int 1, .int 2]], .int 1, .int 2], .tup [.tup [.tup [.int 0, .int 1, .int 2], .tup [.int 0, .int 1, .int 2], .tup [.int 0, .int 1, .int 2]], .int 1, .int 2], .tup [.tup [.tup [.int 0, .int 1, .int 2], .tup [.int 0, .int 1, .int 2], .tup [.int 0, .int 1, .int 2]], .int 1, .int 2]], 33, by decide, fun S => ⟨by kernel_rfl, by kernel_rfl, by kernel_rfl⟩⟩
theorem q_114 : Termed [0, 1, 0, 0, 1, 1, 1, 0] := .inr ⟨"all no", by decide, .tup [.int 0, .int 0, .int 0], 3, by decide, fun S => ⟨by kernel_rfl, by kernel_rfl, by kernel_rfl⟩⟩
theorem q_115 : Termed [1, 1, 0, 0, 1, 1, 1, 0] := .inr ⟨"and", by decide, .tup [.tup [.int 0, .int 0, .int 1], .tup [.int 0, .int 0, .int 1], .tup [.int 0, .int 0, .int 1]], 9, by decide, fun S => ⟨by kernel_rfl, by kernel_rfl, by kernel_rfl⟩⟩
theorem q_116 : Termed [0, 0, 1, 0, 1, 1, 1, 0] := .inr ⟨"all no", by decide, .tup [.int 0, .int 0, .int 0], 3, by decide, fun S => ⟨by kernel_rfl, by kernel_rfl, by kernel_rfl⟩⟩
theorem q_117 : Termed [1, 0, 1, 0, 1, 1, 1, 0] := .inr ⟨"and", by decide, .tup [.tup [.int 0, .int 1, .int 0], .tup [.int 0, .int 1, .int 0], .tup [.int 0, .int 1, .int 0]], 9, by decide, fun S => ⟨by kernel_rfl, by kernel_rfl, by kernel_rfl⟩⟩
theorem q_118 : Termed [0, 1, 1, 0, 1, 1, 1, 0] := .inr ⟨"all no", by decide, .tup [.int 0, .int 0, .int 0], 3, by decide, fun S => ⟨by kernel_rfl, by kernel_rfl, by kernel_rfl⟩⟩
theorem q_119 : Termed [1, 1, 1, 0, 1, 1, 1, 0] := .inr ⟨"and", by decide, .tup [.tup [.int 0, .int 0, .int 1], .tup [.int 0, .int 0, .int 1], .tup [.int 0, .int 0, .int 1]], 9, by decide, fun S => ⟨by kernel_rfl, by kernel_rfl, by kernel_rfl⟩⟩
theorem q_120 : Termed [0, 0, 0, 1, 1, 1, 1, 0] := .inr ⟨"all no", by decide, .tup [.int 0, .int 0, .int 0], 3, by decide, fun S => ⟨by kernel_rfl, by kernel_rfl, by kernel_rfl⟩⟩
theorem q_121 : Termed [1, 0, 0, 1, 1, 1, 1, 0] := .inr ⟨"and", by decide, .tup [.tup [.int 1, .int 0, .int 0], .tup [.int 1, .int 0, .int 0], .tup [.int 1, .int 0, .int 0]], 9, by decide, fun S => ⟨by kernel_rfl, by kernel_rfl, by kernel_rfl⟩⟩
theorem q_122 : Termed [0, 1, 0, 1, 1, 1, 1, 0] := .inr ⟨"all no", by decide, .tup [.int 0, .int 0, .int 0], 3, by decide, fun S => ⟨by kernel_rfl, by kernel_rfl, by kernel_rfl⟩⟩
theorem q_123 : Termed [1, 1, 0, 1, 1, 1, 1, 0] := .inr ⟨"and", by decide, .tup [.tup [.int 0, .int 0, .int 1], .tup [.int 0, .int 0, .int 1], .tup [.int 0, .int 0, .int 1]], 9, by decide, fun S => ⟨by kernel_rfl, by kernel_rfl, by kernel_rfl⟩⟩
theorem q_124 : Termed [0, 0, 1, 1, 1, 1, 1, 0] := .inr ⟨"all no", by decide, .tup [.int 0, .int 0, .int 0], 3, by decide, fun S => ⟨by kernel_rfl, by kernel_rfl, by kernel_rfl⟩⟩
theorem q_125 : Termed [1, 0, 1, 1, 1, 1, 1, 0] := .inr ⟨"and", by decide, .tup [.tup [.int 0, .int 1, .int 0], .tup [.int 0, .int 1, .int 0], .tup [.int 0, .int 1, .int 0]], 9, by decide, fun S => ⟨by kernel_rfl, by kernel_rfl, by kernel_rfl⟩⟩
theorem q_126 : Termed [0, 1, 1, 1, 1, 1, 1, 0] := .inr ⟨"all no", by decide, .tup [.int 0, .int 0, .int 0], 3, by decide, fun S => ⟨by kernel_rfl, by kernel_rfl, by kernel_rfl⟩⟩
theorem q_127 : Termed [1, 1, 1, 1, 1, 1, 1, 0] := .inr ⟨"and", by decide, .tup [.tup [.int 0, .int 0, .int 1], .tup [.int 0, .int 0, .int 1], .tup [.int 0, .int 0, .int 1]], 9, by decide, fun S => ⟨by kernel_rfl, by kernel_rfl, by kernel_rfl⟩⟩
end K07
set_option maxHeartbeats 4000000
namespace K07
open PySem L2 Mir
theorem q_128 : Termed [0, 0, 0, 0, 0, 0, 0, 1] := .inr ⟨"and", by decide, .tup [.int 0, .int 0, .int 1], 3, by decide, fun S => ⟨by kernel_rfl, by kernel_rfl, by kernel_rfl⟩⟩
theorem q_129 : Termed [1, 0, 0, 0, 0, 0, 0, 1] := .inr ⟨"all yes", by decide, .tup [.int 0, .int 0, .int 0], 3, by decide, fun S => ⟨by kernel_rfl, by kernel_rfl, by kernel_rfl⟩⟩
theorem q_130 : Termed [0, 1, 0, 0, 0, 0, 0, 1] := .inr ⟨"and", by decide, .tup [.int 0, .int 1, .int 0], 3, by decide, fun S => ⟨by kernel_rfl, by kernel_rfl, by kernel_rfl⟩⟩
theorem q_131 : Termed [1, 1, 0, 0, 0, 0, 0, 1] := .inr ⟨"all yes", by decide, .tup [.int 0, .int 0, .int 0], 3, by decide, fun S => ⟨by kernel_rfl, by kernel_rfl, by kernel_rfl⟩⟩
theorem q_132 : Termed [0, 0, 1, 0, 0, 0, 0, 1] := .inr ⟨"and", by decide, .tup [.int 0, .int 0, .int 1], 3, by decide, fun S => ⟨by kernel_rfl, by kernel_rfl, by kernel_rfl⟩⟩
theorem q_133 : Termed [1, 0, 1, 0, 0, 0, 0, 1] := .inr ⟨"all yes", by decide, .tup [.int 0, .int 0, .int 0], 3, by decide, fun S => ⟨by kernel_rfl, by kernel_rfl, by kernel_rfl⟩⟩
theorem q_134 : Termed [0, 1, 1, 0, 0, 0, 0, 1] := .inr ⟨"and", by decide, .tup [.int 1, .int 0, .int 0], 3, by decide, fun S => ⟨by kernel_rfl, by kernel_rfl, by kernel_rfl⟩⟩
theorem q_135 : Termed [1, 1, 1, 0, 0, 0, 0, 1] := .inr ⟨"all yes", by decide, .tup [.int 0, .int 0, .int 0], 3, by decide, fun S => ⟨by kernel_rfl, by kernel_rfl, by kernel_rfl⟩⟩
theorem q_136 : Termed [0, 0, 0, 1, 0, 0, 0, 1] := .inr ⟨"and", by decide, .tup [.int 0, .int 0, .int 1], 3, by decide, fun S => ⟨by kernel_rfl, by kernel_rfl, by kernel_rfl⟩⟩
theorem q_137 : Termed [1, 0, 0, 1, 0, 0, 0, 1] := .inr ⟨"all yes", by decide, .tup [.int 0, .int 0, .int 0], 3, by decide, fun S => ⟨by kernel_rfl, by kernel_rfl, by kernel_rfl⟩⟩
theorem q_138 : Termed [0, 1, 0, 1, 0, 0, 0, 1] := .inr ⟨"and", by decide, .tup [.int 0, .int 1, .int 0], 3, by decide, fun S => ⟨by kernel_rfl, by kernel_rfl, by kernel_rfl⟩⟩
theorem q_139 : Termed [1, 1, 0, 1, 0, 0, 0, 1] := .inr ⟨"all yes", by decide, .tup [.int 0, .int 0, .int 0], 3, by decide, fun S => ⟨by kernel_rfl, by kernel_rfl, by kernel_rfl⟩⟩
theorem q_140 : Termed [0, 0, 1, 1, 0, 0, 0, 1] := .inr ⟨"and", by decide, .tup [.int 0, .int 0, .int 1], 3, by decide, fun S => ⟨by kernel_rfl, by kernel_rfl, by kernel_rfl⟩⟩
theorem q_141 : Termed [1, 0, 1, 1, 0, 0, 0, 1] := .inr ⟨"all yes", by decide, .tup [.int 0, .int 0, .int 0], 3, by decide, fun S => ⟨by kernel_rfl, by kernel_rfl, by kernel_rfl⟩⟩
theorem q_142 : Termed [0, 1, 1, 1, 0, 0, 0, 1] := .inr ⟨"majority", by decide, .tup [.tup [.int 0, .int 1, .int 2], .int 1, .int 2], 5, by decide, fun S => ⟨by kernel_rfl, by kernel_rfl, by kernel_rfl⟩⟩
theorem q_143 : Termed [1, 1, 1, 1, 0, 0, 0, 1] := .inr ⟨"all yes", by decide, .tup [.int 0, .int 0, .int 0], 3, by decide, fun S => ⟨by kernel_rfl, by kernel_rfl, by kernel_rfl⟩⟩
theorem q_144 : Termed [0, 0, 0, 0, 1, 0, 0, 1] := .inr ⟨"and", by decide, .tup [.int 0, .int 0, .int 1], 3, by decide, fun S => ⟨by kernel_rfl, by kernel_rfl, by kernel_rfl⟩⟩
theorem q_145 : Termed [1, 0, 0, 0, 1, 0, 0, 1] := .inr ⟨"all yes", by decide, .tup [.int 0, .int 0, .int 0], 3, by decide, fun S => ⟨by kernel_rfl, by kernel_rfl, by kernel_rfl⟩⟩
theorem q_146 : Termed [0, 1, 0, 0, 1, 0, 0, 1] := .inr ⟨"and", by decide, .tup [.int 0, .int 1, .int 0], 3, by decide, fun S => ⟨by kernel_rfl, by kernel_rfl, by kernel_rfl⟩⟩
theorem q_147 : Termed [1, 1, 0, 0, 1, 0, 0, 1] := .inr ⟨"all yes", by decide, .tup [.int 0, .int 0, .int 0], 3, by decide, fun S => ⟨by kernel_rfl, by kernel_rfl, by kernel_rfl⟩⟩
theorem q_148 : Termed [0, 0, 1, 0, 1, 0, 0, 1] := .inr ⟨"and", by decide, .tup [.int 0, .int 0, .int 1], 3, by decide, fun S => ⟨by kernel_rfl, by kernel_rfl, by kernel_rfl⟩⟩
theorem q_149 : Termed [1, 0, 1, 0, 1, 0, 0, 1] := .inr ⟨"all yes", by decide, .tup [.int 0, .int 0, .int 0], 3, by decide, fun S => ⟨by kernel_rfl, by kernel_rfl, by kernel_rfl⟩⟩
theorem q_150 : Termed [0, 1, 1, 0, 1, 0, 0, 1] := .inr ⟨"odd one", by decide, .tup [.int 0, .int 1, .int 2], 3, by decide, fun S => ⟨by kernel_rfl, by kernel_rfl, by kernel_rfl⟩⟩
theorem q_151 : Termed [1, 1, 1, 0, 1, 0, 0, 1] := .inr ⟨"all yes", by decide, .tup [.int 0, .int 0, .int 0], 3, by decide, fun S => ⟨by kernel_rfl, by kernel_rfl, by kernel_rfl⟩⟩
theorem q_152 : Termed [0, 0, 0, 1, 1, 0, 0, 1] := .inr ⟨"and", by decide, .tup [.int 0, .int 0, .int 1], 3, by decide, fun S => ⟨by kernel_rfl, by kernel_rfl, by kernel_rfl⟩⟩
theorem q_153 : Termed [1, 0, 0, 1, 1, 0, 0, 1] := .inr ⟨"all yes", by decide, .tup [.int 0, .int 0, .int 0], 3, by decide, fun S => ⟨by kernel_rfl, by kernel_rfl, by kernel_rfl⟩⟩
theorem q_154 : Termed [0, 1, 0, 1, 1, 0, 0, 1] := .inr ⟨"and", by decide, .tup [.int 0, .int 1, .int 0], 3, by decide, fun S => ⟨by kernel_rfl, by kernel_rfl, by kernel_rfl⟩⟩
theorem q_155 : Termed [1, 1, 0, 1, 1, 0, 0, 1] := .inr ⟨"all yes", by decide, .tup [.int 0, .int 0, .int 0], 3, by decide, fun S => ⟨by kernel_rfl, by kernel_rfl, by kernel_rfl⟩⟩
theorem q_156 : Termed [0, 0, 1, 1, 1, 0, 0, 1] := .inr ⟨"and", by decide, .tup [.int 0, .int 0, .int 1], 3, by decide, fun S => ⟨by kernel_rfl, by kernel_rfl, by kernel_rfl⟩⟩
theorem q_157 : Termed [1, 0, 1, 1, 1, 0, 0, 1] := .inr ⟨"all yes", by decide, .tup [.int 0, .int 0, .int 0], 3, by decide, fun S => ⟨by kernel_rfl, by kernel_rfl, by kernel_rfl⟩⟩
theorem q_158 : Termed [0, 1, 1, 1, 1, 0, 0, 1] := .inr ⟨"or", by decide, .tup [.int 1, .int 0, .int 0], 3, by decide, fun S => ⟨by kernel_rfl, by kernel_rfl, by kernel_rfl⟩⟩
theorem q_159 : Termed [1, 1, 1, 1, 1, 0, 0, 1] := .inr ⟨"all yes", by decide, .tup [.int 0, .int 0, .int 0], 3, by decide, fun S => ⟨by kernel_rfl, by kernel_rfl, by kernel_rfl⟩⟩
theorem q_160 : Termed [0, 0, 0, 0, 0, 1, 0, 1] := .inr ⟨"and", by decide, .tup [.int 0, .int 0, .int 1], 3, by decide, fun S => ⟨by kernel_rfl, by kernel_rfl, by kernel_rfl⟩⟩
theorem q_161 : Termed [1, 0, 0, 0, 0, 1, 0, 1] := .inr ⟨"all yes", by decide, .tup [.int 0, .int 0, .int 0], 3, by decide, fun S => ⟨by kernel_rfl, by kernel_rfl, by kernel_rfl⟩⟩
theorem q_162 : Termed [0, 1, 0, 0, 0, 1, 0, 1] := .inr ⟨"and", by decide, .tup [.int 1, .int 0, .int 0], 3, by decide, fun S => ⟨by kernel_rfl, by kernel_rfl, by kernel_rfl⟩⟩
theorem q_163 : Termed [1, 1, 0, 0, 0, 1, 0, 1] := .inr ⟨"all yes", by decide, .tup [.int 0, .int 0, .int 0], 3, by decide, fun S => ⟨by kernel_rfl, by kernel_rfl, by kernel_rfl⟩⟩
theorem q_164 : Termed [0, 0, 1, 0, 0, 1, 0, 1] := .inr ⟨"and", by decide, .tup [.int 0, .int 0, .int 1], 3, by decide, fun S => ⟨by kernel_rfl, by kernel_rfl, by kernel_rfl⟩⟩
theorem q_165 : Termed [1, 0, 1, 0, 0, 1, 0, 1] := .inr ⟨"all yes", by decide, .tup [.int 0, .int 0, .int 0], 3, by decide, fun S => ⟨by kernel_rfl, by kernel_rfl, by kernel_rfl⟩⟩
theorem q_166 : Termed [0, 1, 1, 0, 0, 1, 0, 1] := .inr ⟨"or", by decide, .tup [.int 0, .int 1, .int 0], 3, by decide, fun S => ⟨by kernel_rfl, by kernel_rfl, by kernel_rfl⟩⟩
theorem q_167 : Termed [1, 1, 1, 0, 0, 1, 0, 1] := .inr ⟨"all yes", by decide, .tup [.int 0, .int 0, .int 0], 3, by decide, fun S => ⟨by kernel_rfl, by kernel_rfl, by kernel_rfl⟩⟩
theorem q_168 : Termed [0, 0, 0, 1, 0, 1, 0, 1] := .inr ⟨"and", by decide, .tup [.int 0, .int 0, .int 1], 3, by decide, fun S => ⟨by kernel_rfl, by kernel_rfl, by kernel_rfl⟩⟩
theorem q_169 : Termed [1, 0, 0, 1, 0, 1, 0, 1] := .inr ⟨"all yes", by decide, .tup [.int 0, .int 0, .int 0], 3, by decide, fun S => ⟨by kernel_rfl, by kernel_rfl, by kernel_rfl⟩⟩
theorem q_170 : Termed [0, 1, 0, 1, 0, 1, 0, 1] := .inl fun S => by kernel_rfl
theorem q_171 : Termed [1, 1, 0, 1, 0, 1, 0, 1] := .inr ⟨"all yes", by decide, .tup [.int 0, .int 0, .int 0], 3, by decide, fun S => ⟨by kernel_rfl, by kernel_rfl, by kernel_rfl⟩⟩
theorem q_172 : Termed [0, 0, 1, 1, 0, 1, 0, 1] := .inr ⟨"and", by decide, .tup [.int 0, .int 0, .int 1], 3, by decide, fun S => ⟨by kernel_rfl, by kernel_rfl, by kernel_rfl⟩⟩
theorem q_173 : Termed [1, 0, 1, 1, 0, 1, 0, 1] := .inr ⟨"all yes", by decide, .tup [.int 0, .int 0, .int 0], 3, by decide, fun S => ⟨by kernel_rfl, by kernel_rfl, by kernel_rfl⟩⟩
theorem q_174 : Termed [0, 1, 1, 1, 0, 1, 0, 1] := .inr ⟨"or", by decide, .tup [.int 0, .int 1, .int 0], 3, by decide, fun S => ⟨by kernel_rfl, by kernel_rfl, by kernel_rfl⟩⟩
theorem q_175 : Termed [1, 1, 1, 1, 0, 1, 0, 1] := .inr ⟨"all yes", by decide, .tup [.int 0, .int 0, .int 0], 3, by decide, fun S => ⟨by kernel_rfl, by kernel_rfl, by kernel_rfl⟩⟩
theorem q_176 : Termed [0, 0, 0, 0, 1, 1, 0, 1] := .inr ⟨"and", by decide, .tup [.int 0, .int 0, .int 1], 3, by decide, fun S => ⟨by kernel_rfl, by kernel_rfl, by kernel_rfl⟩⟩
theorem q_177 : Termed [1, 0, 0, 0, 1, 1, 0, 1] := .inr ⟨"all yes", by decide, .tup [.int 0, .int 0, .int 0], 3, by decide, fun S => ⟨by kernel_rfl, by kernel_rfl, by kernel_rfl⟩⟩
theorem q_178 : Termed [0, 1, 0, 0, 1, 1, 0, 1] := .inr ⟨"majority", by decide, .tup [.int 0, .tup [.int 0, .int 1, .int 2], .int 2], 5, by decide, fun S => ⟨by kernel_rfl, by kernel_rfl, by kernel_rfl⟩⟩
theorem q_179 : Termed [1, 1, 0, 0, 1, 1, 0, 1] := .inr ⟨"all yes", by decide, .tup [.int 0, .int 0, .int 0], 3, by decide, fun S => ⟨by kernel_rfl, by kernel_rfl, by kernel_rfl⟩⟩
theorem q_180 : Termed [0, 0, 1, 0, 1, 1, 0, 1] := .inr ⟨"and", by decide, .tup [.int 0, .int 0, .int 1], 3, by decide, fun S => ⟨by kernel_rfl, by kernel_rfl, by kernel_rfl⟩⟩
theorem q_181 : Termed [1, 0, 1, 0, 1, 1, 0, 1] := .inr ⟨"all yes", by decide, .tup [.int 0, .int 0, .int 0], 3, by decide, fun S => ⟨by kernel_rfl, by kernel_rfl, by kernel_rfl⟩⟩
theorem q_182 : Termed [0, 1, 1, 0, 1, 1, 0, 1] := .inr ⟨"or", by decide, .tup [.int 0, .int 1, .int 0], 3, by decide, fun S => ⟨by kernel_rfl, by kernel_rfl, by kernel_rfl⟩⟩
theorem q_183 : Termed [1, 1, 1, 0, 1, 1, 0, 1] := .inr ⟨"all yes", by decide, .tup [.int 0, .int 0, .int 0], 3, by decide, fun S => ⟨by kernel_rfl, by kernel_rfl, by kernel_rfl⟩⟩
theorem q_184 : Termed [0, 0, 0, 1, 1, 1, 0, 1] := .inr ⟨"and", by decide, .tup [.int 0, .int 0, .int 1], 3, by decide, fun S => ⟨by kernel_rfl, by kernel_rfl, by kernel_rfl⟩⟩
theorem q_185 : Termed [1, 0, 0, 1, 1, 1, 0, 1] := .inr ⟨"all yes", by decide, .tup [.int 0, .int 0, .int 0], 3, by decide, fun S => ⟨by kernel_rfl, by kernel_rfl, by kernel_rfl⟩⟩
theorem q_186 : Termed [0, 1, 0, 1, 1, 1, 0, 1] := .inr ⟨"or", by decide, .tup [.int 1, .int 0, .int 0], 3, by decide, fun S => ⟨by kernel_rfl, by kernel_rfl, by kernel_rfl⟩⟩
theorem q_187 : Termed [1, 1, 0, 1, 1, 1, 0, 1] := .inr ⟨"all yes", by decide, .tup [.int 0, .int 0, .int 0], 3, by decide, fun S => ⟨by kernel_rfl, by kernel_rfl, by kernel_rfl⟩⟩
theorem q_188 : Termed [0, 0, 1, 1, 1, 1, 0, 1] := .inr ⟨"and", by decide, .tup [.int 0, .int 0, .int 1], 3, by decide, fun S => ⟨by kernel_rfl, by kernel_rfl, by kernel_rfl⟩⟩
theorem q_189 : Termed [1, 0, 1, 1, 1, 1, 0, 1] := .inr ⟨"all yes", by decide, .tup [.int 0, .int 0, .int 0], 3, by decide, fun S => ⟨by kernel_rfl, by kernel_rfl, by kernel_rfl⟩⟩
theorem q_190 : Termed [0, 1, 1, 1, 1, 1, 0, 1] := .inr ⟨"or", by decide, .tup [.int 0, .int 1, .int 0], 3, by decide, fun S => ⟨by kernel_rfl, by kernel_rfl, by kernel_rfl⟩⟩
theorem q_191 : Termed [1, 1, 1, 1, 1, 1, 0, 1] := .inr ⟨"all yes", by decide, .tup [.int 0, .int 0, .int 0], 3, by decide, fun S => ⟨by kernel_rfl, by kernel_rfl, by kernel_rfl⟩⟩
end K07
set_option maxHeartbeats 4000000
namespace K07
open PySem L2 Mir
theorem q_192 : Termed [0, 0, 0, 0, 0, 0, 1, 1] := .inr ⟨"and", by decide, .tup [.int 0, .int 1, .int 0], 3, by decide, fun S => ⟨by kernel_rfl, by kernel_rfl, by kernel_rfl⟩⟩
theorem q_193 : Termed [1, 0, 0, 0, 0, 0, 1, 1] := .inr ⟨"all yes", by decide, .tup [.int 0, .int 0, .int 0], 3, by decide, fun S => ⟨by kernel_rfl, by kernel_rfl, by kernel_rfl⟩⟩
theorem q_194 : Termed [0, 1, 0, 0, 0, 0, 1, 1] := .inr ⟨"or", by decide, .tup [.int 0, .int 0, .int 1], 3, by decide, fun S => ⟨by kernel_rfl, by kernel_rfl, by kernel_rfl⟩⟩
theorem q_195 : Termed [1, 1, 0, 0, 0, 0, 1, 1] := .inr ⟨"all yes", by decide, .tup [.int 0, .int 0, .int 0], 3, by decide, fun S => ⟨by kernel_rfl, by kernel_rfl, by kernel_rfl⟩⟩
theorem q_196 : Termed [0, 0, 1, 0, 0, 0, 1, 1] := .inr ⟨"and", by decide, .tup [.int 1, .int 0, .int 0], 3, by decide, fun S => ⟨by kernel_rfl, by kernel_rfl, by kernel_rfl⟩⟩
theorem q_197 : Termed [1, 0, 1, 0, 0, 0, 1, 1] := .inr ⟨"all yes", by decide, .tup [.int 0, .int 0, .int 0], 3, by decide, fun S => ⟨by kernel_rfl, by kernel_rfl, by kernel_rfl⟩⟩
theorem q_198 : Termed [0, 1, 1, 0, 0, 0, 1, 1] := .inr ⟨"or", by decide, .tup [.int 0, .int 0, .int 1], 3, by decide, fun S => ⟨by kernel_rfl, by kernel_rfl, by kernel_rfl⟩⟩
theorem q_199 : Termed [1, 1, 1, 0, 0, 0, 1, 1] := .inr ⟨"all yes", by decide, .tup [.int 0, .int 0, .int 0], 3, by decide, fun S => ⟨by kernel_rfl, by kernel_rfl, by kernel_rfl⟩⟩
theorem q_200 : Termed [0, 0, 0, 1, 0, 0, 1, 1] := .inr ⟨"and", by decide, .tup [.int 0, .int 1, .int 0], 3, by decide, fun S => ⟨by kernel_rfl, by kernel_rfl, by kernel_rfl⟩⟩
theorem q_201 : Termed [1, 0, 0, 1, 0, 0, 1, 1] := .inr ⟨"all yes", by decide, .tup [.int 0, .int 0, .int 0], 3, by decide, fun S => ⟨by kernel_rfl, by kernel_rfl, by kernel_rfl⟩⟩
theorem q_202 : Termed [0, 1, 0, 1, 0, 0, 1, 1] := .inr ⟨"or", by decide, .tup [.int 0, .int 0, .int 1], 3, by decide, fun S => ⟨by kernel_rfl, by kernel_rfl, by kernel_rfl⟩⟩
theorem q_203 : Termed [1, 1, 0, 1, 0, 0, 1, 1] := .inr ⟨"all yes", by decide, .tup [.int 0, .int 0, .int 0], 3, by decide, fun S => ⟨by kernel_rfl, by kernel_rfl, by kernel_rfl⟩⟩
theorem q_204 : Termed [0, 0, 1, 1, 0, 0, 1, 1] := .inl fun S => by kernel_rfl
theorem q_205 : Termed [1, 0, 1, 1, 0, 0, 1, 1] := .inr ⟨"all yes", by decide, .tup [.int 0, .int 0, .int 0], 3, by decide, fun S => ⟨by kernel_rfl, by kernel_rfl, by kernel_rfl⟩⟩
theorem q_206 : Termed [0, 1, 1, 1, 0, 0, 1, 1] := .inr ⟨"or", by decide, .tup [.int 0, .int 0, .int 1], 3, by decide, fun S => ⟨by kernel_rfl, by kernel_rfl, by kernel_rfl⟩⟩
theorem q_207 : Termed [1, 1, 1, 1, 0, 0, 1, 1] := .inr ⟨"all yes", by decide, .tup [.int 0, .int 0, .int 0], 3, by decide, fun S => ⟨by kernel_rfl, by kernel_rfl, by kernel_rfl⟩⟩
theorem q_208 : Termed [0, 0, 0, 0, 1, 0, 1, 1] := .inr ⟨"and", by decide, .tup [.int 0, .int 1, .int 0], 3, by decide, fun S => ⟨by kernel_rfl, by kernel_rfl, by kernel_rfl⟩⟩
theorem q_209 : Termed [1, 0, 0, 0, 1, 0, 1, 1] := .inr ⟨"all yes", by decide, .tup [.int 0, .int 0, .int 0], 3, by decide, fun S => ⟨by kernel_rfl, by kernel_rfl, by kernel_rfl⟩⟩
theorem q_210 : Termed [0, 1, 0, 0, 1, 0, 1, 1] := .inr ⟨"or", by decide, .tup [.int 0, .int 0, .int 1], 3, by decide, fun S => ⟨by kernel_rfl, by kernel_rfl, by kernel_rfl⟩⟩
theorem q_211 : Termed [1, 1, 0, 0, 1, 0, 1, 1] := .inr ⟨"all yes", by decide, .tup [.int 0, .int 0, .int 0], 3, by decide, fun S => ⟨by kernel_rfl, by kernel_rfl, by kernel_rfl⟩⟩
theorem q_212 : Termed [0, 0, 1, 0, 1, 0, 1, 1] := .inr ⟨"majority", by decide, .tup [.int 0, .int 1, .tup [.int 0, .int 1, .int 2]], 5, by decide, fun S => ⟨by kernel_rfl, by kernel_rfl, by kernel_rfl⟩⟩
theorem q_213 : Termed [1, 0, 1, 0, 1, 0, 1, 1] := .inr ⟨"all yes", by decide, .tup [.int 0, .int 0, .int 0], 3, by decide, fun S => ⟨by kernel_rfl, by kernel_rfl, by kernel_rfl⟩⟩
theorem q_214 : Termed [0, 1, 1, 0, 1, 0, 1, 1] := .inr ⟨"or", by decide, .tup [.int 0, .int 0, .int 1], 3, by decide, fun S => ⟨by kernel_rfl, by kernel_rfl, by kernel_rfl⟩⟩
theorem q_215 : Termed [1, 1, 1, 0, 1, 0, 1, 1] := .inr ⟨"all yes", by decide, .tup [.int 0, .int 0, .int 0], 3, by decide, fun S => ⟨by kernel_rfl, by kernel_rfl, by kernel_rfl⟩⟩
theorem q_216 : Termed [0, 0, 0, 1, 1, 0, 1, 1] := .inr ⟨"and", by decide, .tup [.int 0, .int 1, .int 0], 3, by decide, fun S => ⟨by kernel_rfl, by kernel_rfl, by kernel_rfl⟩⟩
theorem q_217 : Termed [1, 0, 0, 1, 1, 0, 1, 1] := .inr ⟨"all yes", by decide, .tup [.int 0, .int 0, .int 0], 3, by decide, fun S => ⟨by kernel_rfl, by kernel_rfl, by kernel_rfl⟩⟩
theorem q_218 : Termed [0, 1, 0, 1, 1, 0, 1, 1] := .inr ⟨"or", by decide, .tup [.int 0, .int 0, .int 1], 3, by decide, fun S => ⟨by kernel_rfl, by kernel_rfl, by kernel_rfl⟩⟩
theorem q_219 : Termed [1, 1, 0, 1, 1, 0, 1, 1] := .inr ⟨"all yes", by decide, .tup [.int 0, .int 0, .int 0], 3, by decide, fun S => ⟨by kernel_rfl, by kernel_rfl, by kernel_rfl⟩⟩
theorem q_220 : Termed [0, 0, 1, 1, 1, 0, 1, 1] := .inr ⟨"or", by decide, .tup [.int 1, .int 0, .int 0], 3, by decide, fun S => ⟨by kernel_rfl, by kernel_rfl, by kernel_rfl⟩⟩
theorem q_221 : Termed [1, 0, 1, 1, 1, 0, 1, 1] := .inr ⟨"all yes", by decide, .tup [.int 0, .int 0, .int 0], 3, by decide, fun S => ⟨by kernel_rfl, by kernel_rfl, by kernel_rfl⟩⟩
theorem q_222 : Termed [0, 1, 1, 1, 1, 0, 1, 1] := .inr ⟨"or", by decide, .tup [.int 0, .int 0, .int 1], 3, by decide, fun S => ⟨by kernel_rfl, by kernel_rfl, by kernel_rfl⟩⟩
theorem q_223 : Termed [1, 1, 1, 1, 1, 0, 1, 1] := .inr ⟨"all yes", by decide, .tup [.int 0, .int 0, .int 0], 3, by decide, fun S => ⟨by kernel_rfl, by kernel_rfl, by kernel_rfl⟩⟩
theorem q_224 : Termed [0, 0, 0, 0, 0, 1, 1, 1] := .inr ⟨"and", by decide, .tup [.int 1, .int 0, .int 0], 3, by decide, fun S => ⟨by kernel_rfl, by kernel_rfl, by kernel_rfl⟩⟩
theorem q_225 : Termed [1, 0, 0, 0, 0, 1, 1, 1] := .inr ⟨"all yes", by decide, .tup [.int 0, .int 0, .int 0], 3, by decide, fun S => ⟨by kernel_rfl, by kernel_rfl, by kernel_rfl⟩⟩
theorem q_226 : Termed [0, 1, 0, 0, 0, 1, 1, 1] := .inr ⟨"or", by decide, .tup [.int 0, .int 0, .int 1], 3, by decide, fun S => ⟨by kernel_rfl, by kernel_rfl, by kernel_rfl⟩⟩
theorem q_227 : Termed [1, 1, 0, 0, 0, 1, 1, 1] := .inr ⟨"all yes", by decide, .tup [.int 0, .int 0, .int 0], 3, by decide, fun S => ⟨by kernel_rfl, by kernel_rfl, by kernel_rfl⟩⟩
theorem q_228 : Termed [0, 0, 1, 0, 0, 1, 1, 1] := .inr ⟨"or", by decide, .tup [.int 0, .int 1, .int 0], 3, by decide, fun S => ⟨by kernel_rfl, by kernel_rfl, by kernel_rfl⟩⟩
theorem q_229 : Termed [1, 0, 1, 0, 0, 1, 1, 1] := .inr ⟨"all yes", by decide, .tup [.int 0, .int 0, .int 0], 3, by decide, fun S => ⟨by kernel_rfl, by kernel_rfl, by kernel_rfl⟩⟩
theorem q_230 : Termed [0, 1, 1, 0, 0, 1, 1, 1] := .inr ⟨"or", by decide, .tup [.int 0, .int 0, .int 1], 3, by decide, fun S => ⟨by kernel_rfl, by kernel_rfl, by kernel_rfl⟩⟩
theorem q_231 : Termed [1, 1, 1, 0, 0, 1, 1, 1] := .inr ⟨"all yes", by decide, .tup [.int 0, .int 0, .int 0], 3, by decide, fun S => ⟨by kernel_rfl, by kernel_rfl, by kernel_rfl⟩⟩
theorem q_232 : Termed [0, 0, 0, 1, 0, 1, 1, 1] := .inr ⟨"majority", by decide, .tup [.int 0, .int 1, .int 2], 3, by decide, fun S => ⟨by kernel_rfl, by kernel_rfl, by kernel_rfl⟩⟩
theorem q_233 : Termed [1, 0, 0, 1, 0, 1, 1, 1] := .inr ⟨"all yes", by decide, .tup [.int 0, .int 0, .int 0], 3, by decide, fun S => ⟨by kernel_rfl, by kernel_rfl, by kernel_rfl⟩⟩
theorem q_234 : Termed [0, 1, 0, 1, 0, 1, 1, 1] := .inr ⟨"or", by decide, .tup [.int 0, .int 0, .int 1], 3, by decide, fun S => ⟨by kernel_rfl, by kernel_rfl, by kernel_rfl⟩⟩
theorem q_235 : Termed [1, 1, 0, 1, 0, 1, 1, 1] := .inr ⟨"all yes", by decide, .tup [.int 0, .int 0, .int 0], 3, by decide, fun S => ⟨by kernel_rfl, by kernel_rfl, by kernel_rfl⟩⟩
theorem q_236 : Termed [0, 0, 1, 1, 0, 1, 1, 1] := .inr ⟨"or", by decide, .tup [.int 0, .int 1, .int 0], 3, by decide, fun S => ⟨by kernel_rfl, by kernel_rfl, by kernel_rfl⟩⟩
theorem q_237 : Termed [1, 0, 1, 1, 0, 1, 1, 1] := .inr ⟨"all yes", by decide, .tup [.int 0, .int 0, .int 0], 3, by decide, fun S => ⟨by kernel_rfl, by kernel_rfl, by kernel_rfl⟩⟩
theorem q_238 : Termed [0, 1, 1, 1, 0, 1, 1, 1] := .inr ⟨"or", by decide, .tup [.int 0, .int 0, .int 1], 3, by decide, fun S => ⟨by kernel_rfl, by kernel_rfl, by kernel_rfl⟩⟩
theorem q_239 : Termed [1, 1, 1, 1, 0, 1, 1, 1] := .inr ⟨"all yes", by decide, .tup [.int 0, .int 0, .int 0], 3, by decide, fun S => ⟨by kernel_rfl, by kernel_rfl, by kernel_rfl⟩⟩
theorem q_240 : Termed [0, 0, 0, 0, 1, 1, 1, 1] := .inl fun S => by kernel_rfl
theorem q_241 : Termed [1, 0, 0, 0, 1, 1, 1, 1] := .inr ⟨"all yes", by decide, .tup [.int 0, .int 0, .int 0], 3, by decide, fun S => ⟨by kernel_rfl, by kernel_rfl, by kernel_rfl⟩⟩
theorem q_242 : Termed [0, 1, 0, 0, 1, 1, 1, 1] := .inr ⟨"or", by decide, .tup [.int 0, .int 0, .int 1], 3, by decide, fun S => ⟨by kernel_rfl, by kernel_rfl, by kernel_rfl⟩⟩
theorem q_243 : Termed [1, 1, 0, 0, 1, 1, 1, 1] := .inr ⟨"all yes", by decide, .tup [.int 0, .int 0, .int 0], 3, by decide, fun S => ⟨by kernel_rfl, by kernel_rfl, by kernel_rfl⟩⟩
theorem q_244 : Termed [0, 0, 1, 0, 1, 1, 1, 1] := .inr ⟨"or", by decide, .tup [.int 0, .int 1, .int 0], 3, by decide, fun S => ⟨by kernel_rfl, by kernel_rfl, by kernel_rfl⟩⟩
theorem q_245 : Termed [1, 0, 1, 0, 1, 1, 1, 1] := .inr ⟨"all yes", by decide, .tup [.int 0, .int 0, .int 0], 3, by decide, fun S => ⟨by kernel_rfl, by kernel_rfl, by kernel_rfl⟩⟩
theorem q_246 : Termed [0, 1, 1, 0, 1, 1, 1, 1] := .inr ⟨"or", by decide, .tup [.int 0, .int 0, .int 1], 3, by decide, fun S => ⟨by kernel_rfl, by kernel_rfl, by kernel_rfl⟩⟩
theorem q_247 : Termed [1, 1, 1, 0, 1, 1, 1, 1] := .inr ⟨"all yes", by decide, .tup [.int 0, .int 0, .int 0], 3, by decide, fun S => ⟨by kernel_rfl, by kernel_rfl, by kernel_rfl⟩⟩
theorem q_248 : Termed [0, 0, 0, 1, 1, 1, 1, 1] := .inr ⟨"or", by decide, .tup [.int 1, .int 0, .int 0], 3, by decide, fun S => ⟨by kernel_rfl, by kernel_rfl, by kernel_rfl⟩⟩
theorem q_249 : Termed [1, 0, 0, 1, 1, 1, 1, 1] := .inr ⟨"all yes", by decide, .tup [.int 0, .int 0, .int 0], 3, by decide, fun S => ⟨by kernel_rfl, by kernel_rfl, by kernel_rfl⟩⟩
theorem q_250 : Termed [0, 1, 0, 1, 1, 1, 1, 1] := .inr ⟨"or", by decide, .tup [.int 0, .int 0, .int 1], 3, by decide, fun S => ⟨by kernel_rfl, by kernel_rfl, by kernel_rfl⟩⟩
theorem q_251 : Termed [1, 1, 0, 1, 1, 1, 1, 1] := .inr ⟨"all yes", by decide, .tup [.int 0, .int 0, .int 0], 3, by decide, fun S => ⟨by kernel_rfl, by kernel_rfl, by kernel_rfl⟩⟩
theorem q_252 : Termed [0, 0, 1, 1, 1, 1, 1, 1] := .inr ⟨"or", by decide, .tup [.int 0, .int 1, .int 0], 3, by decide, fun S => ⟨by kernel_rfl, by kernel_rfl, by kernel_rfl⟩⟩
theorem q_253 : Termed [1, 0, 1, 1, 1, 1, 1, 1] := .inr ⟨"all yes", by decide, .tup [.int 0, .int 0, .int 0], 3, by decide, fun S => ⟨by kernel_rfl, by kernel_rfl, by kernel_rfl⟩⟩
theorem q_254 : Termed [0, 1, 1, 1, 1, 1, 1, 1] := .inr ⟨"or", by decide, .tup [.int 0, .int 0, .int 1], 3, by decide, fun S => ⟨by kernel_rfl, by kernel_rfl, by kernel_rfl⟩⟩
theorem q_255 : Termed [1, 1, 1, 1, 1, 1, 1, 1] := .inr ⟨"all yes", by decide, .tup [.int 0, .int 0, .int 0], 3, by decide, fun S => ⟨by kernel_rfl, by kernel_rfl, by kernel_rfl⟩⟩
end K07
set_option maxHeartbeats 4000000
namespace K07
open PySem L2 Mir
theorem termed {r : List Int} (T : Row8 r) : Termed r := by
  have hl := T.len
  have hb := T.bits
  obtain ⟨b0, b1, b2, b3, b4, b5, b6, b7, rfl⟩ : ∃ b0 b1 b2 b3 b4 b5 b6 b7, r = [b0, b1, b2, b3, b4, b5, b6, b7] := by
    match r, hl with
    | [b0, b1, b2, b3, b4, b5, b6, b7], _ => exact ⟨b0, b1, b2, b3, b4, b5, b6, b7, rfl⟩
  have h0 := hb b0 (by simp)
  have h1 := hb b1 (by simp)
  have h2 := hb b2 (by simp)
  have h3 := hb b3 (by simp)
  have h4 := hb b4 (by simp)
  have h5 := hb b5 (by simp)
  have h6 := hb b6 (by simp)
  have h7 := hb b7 (by simp)
  rcases h0 with rfl | rfl
  · rcases h1 with rfl | rfl
    · rcases h2 with rfl | rfl
      · rcases h3 with rfl | rfl
        · rcases h4 with rfl | rfl
          · rcases h5 with rfl | rfl
            · rcases h6 with rfl | rfl
              · rcases h7 with rfl | rfl
                · exact q_0
                · exact q_128
              · rcases h7 with rfl | rfl
                · exact q_64
                · exact q_192
            · rcases h6 with rfl | rfl
              · rcases h7 with rfl | rfl
                · exact q_32
                · exact q_160
              · rcases h7 with rfl | rfl
                · exact q_96
                · exact q_224
          · rcases h5 with rfl | rfl
            · rcases h6 with rfl | rfl
              · rcases h7 with rfl | rfl
                · exact q_16
                · exact q_144
              · rcases h7 with rfl | rfl
                · exact q_80
                · exact q_208
            · rcases h6 with rfl | rfl
              · rcases h7 with rfl | rfl
                · exact q_48
                · exact q_176
              · rcases h7 with rfl | rfl
                · exact q_112
                · exact q_240
        · rcases h4 with rfl | rfl
          · rcases h5 with rfl | rfl
            · rcases h6 with rfl | rfl
              · rcases h7 with rfl | rfl
                · exact q_8
                · exact q_136
              · rcases h7 with rfl | rfl
                · exact q_72
                · exact q_200
            · rcases h6 with rfl | rfl
              · rcases h7 with rfl | rfl
                · exact q_40
                · exact q_168
              · rcases h7 with rfl | rfl
                · exact q_104
                · exact q_232
          · rcases h5 with rfl | rfl
            · rcases h6 with rfl | rfl
              · rcases h7 with rfl | rfl
                · exact q_24
                · exact q_152
              · rcases h7 with rfl | rfl
                · exact q_88
                · exact q_216
            · rcases h6 with rfl | rfl
              · rcases h7 with rfl | rfl
                · exact q_56
                · exact q_184
              · rcases h7 with rfl | rfl
                · exact q_120
                · exact q_248
      · rcases h3 with rfl | rfl
        · rcases h4 with rfl | rfl
          · rcases h5 with rfl | rfl
            · rcases h6 with rfl | rfl
              · rcases h7 with rfl | rfl
                · exact q_4
                · exact q_132
              · rcases h7 with rfl | rfl
                · exact q_68
                · exact q_196
            · rcases h6 with rfl | rfl
              · rcases h7 with rfl | rfl
                · exact q_36
                · exact q_164
              · rcases h7 with rfl | rfl
                · exact q_100
                · exact q_228
          · rcases h5 with rfl | rfl
            · rcases h6 with rfl | rfl
              · rcases h7 with rfl | rfl
                · exact q_20
                · exact q_148
              · rcases h7 with rfl | rfl
                · exact q_84
                · exact q_212
            · rcases h6 with rfl | rfl
              · rcases h7 with rfl | rfl
                · exact q_52
                · exact q_180
              · rcases h7 with rfl | rfl
                · exact q_116
                · exact q_244
        · rcases h4 with rfl | rfl
          · rcases h5 with rfl | rfl
            · rcases h6 with rfl | rfl
              · rcases h7 with rfl | rfl
                · exact q_12
                · exact q_140
              · rcases h7 with rfl | rfl
                · exact q_76
                · exact q_204
            · rcases h6 with rfl | rfl
              · rcases h7 with rfl | rfl
                · exact q_44
                · exact q_172
              · rcases h7 with rfl | rfl
                · exact q_108
                · exact q_236
          · rcases h5 with rfl | rfl
            · rcases h6 with rfl | rfl
              · rcases h7 with rfl | rfl
                · exact q_28
                · exact q_156
              · rcases h7 with rfl | rfl
                · exact q_92
                · exact q_220
            · rcases h6 with rfl | rfl
              · rcases h7 with rfl | rfl
                · exact q_60
                · exact q_188
              · rcases h7 with rfl | rfl
                · exact q_124
                · exact q_252
    · rcases h2 with rfl | rfl
      · rcases h3 with rfl | rfl
        · rcases h4 with rfl | rfl
          · rcases h5 with rfl | rfl
            · rcases h6 with rfl | rfl
              · rcases h7 with rfl | rfl
                · exact q_2
                · exact q_130
              · rcases h7 with rfl | rfl
                · exact q_66
                · exact q_194
            · rcases h6 with rfl | rfl
              · rcases h7 with rfl | rfl
                · exact q_34
                · exact q_162
              · rcases h7 with rfl | rfl
                · exact q_98
                · exact q_226
          · rcases h5 with rfl | rfl
            · rcases h6 with rfl | rfl
              · rcases h7 with rfl | rfl
                · exact q_18
                · exact q_146
              · rcases h7 with rfl | rfl
                · exact q_82
                · exact q_210
            · rcases h6 with rfl | rfl
              · rcases h7 with rfl | rfl
                · exact q_50
                · exact q_178
              · rcases h7 with rfl | rfl
                · exact q_114
                · exact q_242
        · rcases h4 with rfl | rfl
          · rcases h5 with rfl | rfl
            · rcases h6 with rfl | rfl
              · rcases h7 with rfl | rfl
                · exact q_10
                · exact q_138
              · rcases h7 with rfl | rfl
                · exact q_74
                · exact q_202
            · rcases h6 with rfl | rfl
              · rcases h7 with rfl | rfl
                · exact q_42
                · exact q_170
              · rcases h7 with rfl | rfl
                · exact q_106
                · exact q_234
          · rcases h5 with rfl | rfl
            · rcases h6 with rfl | rfl
              · rcases h7 with rfl | rfl
                · exact q_26
                · exact q_154
              · rcases h7 with rfl | rfl
                · exact q_90
                · exact q_218
            · rcases h6 with rfl | rfl
              · rcases h7 with rfl | rfl
                · exact q_58
                · exact q_186
              · rcases h7 with rfl | rfl
                · exact q_122
                · exact q_250
      · rcases h3 with rfl | rfl
        · rcases h4 with rfl | rfl
          · rcases h5 with rfl | rfl
            · rcases h6 with rfl | rfl
              · rcases h7 with rfl | rfl
                · exact q_6
                · exact q_134
              · rcases h7 with rfl | rfl
                · exact q_70
                · exact q_198
            · rcases h6 with rfl | rfl
              · rcases h7 with rfl | rfl
                · exact q_38
                · exact q_166
              · rcases h7 with rfl | rfl
                · exact q_102
                · exact q_230
          · rcases h5 with rfl | rfl
            · rcases h6 with rfl | rfl
              · rcases h7 with rfl | rfl
                · exact q_22
                · exact q_150
              · rcases h7 with rfl | rfl
                · exact q_86
                · exact q_214
            · rcases h6 with rfl | rfl
              · rcases h7 with rfl | rfl
                · exact q_54
                · exact q_182
              · rcases h7 with rfl | rfl
                · exact q_118
                · exact q_246
        · rcases h4 with rfl | rfl
          · rcases h5 with rfl | rfl
            · rcases h6 with rfl | rfl
              · rcases h7 with rfl | rfl
                · exact q_14
                · exact q_142
              · rcases h7 with rfl | rfl
                · exact q_78
                · exact q_206
            · rcases h6 with rfl | rfl
              · rcases h7 with rfl | rfl
                · exact q_46
                · exact q_174
              · rcases h7 with rfl | rfl
                · exact q_110
                · exact q_238
          · rcases h5 with rfl | rfl
            · rcases h6 with rfl | rfl
              · rcases h7 with rfl | rfl
                · exact q_30
                · exact q_158
              · rcases h7 with rfl | rfl
                · exact q_94
                · exact q_222
            · rcases h6 with rfl | rfl
              · rcases h7 with rfl | rfl
                · exact q_62
                · exact q_190
              · rcases h7 with rfl | rfl
                · exact q_126
                · exact q_254
  · rcases h1 with rfl | rfl
    · rcases h2 with rfl | rfl
      · rcases h3 with rfl | rfl
        · rcases h4 with rfl | rfl
          · rcases h5 with rfl | rfl
            · rcases h6 with rfl | rfl
              · rcases h7 with rfl | rfl
                · exact q_1
                · exact q_129
              · rcases h7 with rfl | rfl
                · exact q_65
                · exact q_193
            · rcases h6 with rfl | rfl
              · rcases h7 with rfl | rfl
                · exact q_33
                · exact q_161
              · rcases h7 with rfl | rfl
                · exact q_97
                · exact q_225
          · rcases h5 with rfl | rfl
            · rcases h6 with rfl | rfl
              · rcases h7 with rfl | rfl
                · exact q_17
                · exact q_145
              · rcases h7 with rfl | rfl
                · exact q_81
                · exact q_209
            · rcases h6 with rfl | rfl
              · rcases h7 with rfl | rfl
                · exact q_49
                · exact q_177
              · rcases h7 with rfl | rfl
                · exact q_113
                · exact q_241
        · rcases h4 with rfl | rfl
          · rcases h5 with rfl | rfl
            · rcases h6 with rfl | rfl
              · rcases h7 with rfl | rfl
                · exact q_9
                · exact q_137
              · rcases h7 with rfl | rfl
                · exact q_73
                · exact q_201
            · rcases h6 with rfl | rfl
              · rcases h7 with rfl | rfl
                · exact q_41
                · exact q_169
              · rcases h7 with rfl | rfl
                · exact q_105
                · exact q_233
          · rcases h5 with rfl | rfl
            · rcases h6 with rfl | rfl
              · rcases h7 with rfl | rfl
                · exact q_25
                · exact q_153
              · rcases h7 with rfl | rfl
                · exact q_89
                · exact q_217
            · rcases h6 with rfl | rfl
              · rcases h7 with rfl | rfl
                · exact q_57
                · exact q_185
              · rcases h7 with rfl | rfl
                · exact q_121
                · exact q_249
      · rcases h3 with rfl | rfl
        · rcases h4 with rfl | rfl
          · rcases h5 with rfl | rfl
            · rcases h6 with rfl | rfl
              · rcases h7 with rfl | rfl
                · exact q_5
                · exact q_133
              · rcases h7 with rfl | rfl
                · exact q_69
                · exact q_197
            · rcases h6 with rfl | rfl
              · rcases h7 with rfl | rfl
                · exact q_37
                · exact q_165
              · rcases h7 with rfl | rfl
                · exact q_101
                · exact q_229
          · rcases h5 with rfl | rfl
            · rcases h6 with rfl | rfl
              · rcases h7 with rfl | rfl
                · exact q_21
                · exact q_149
              · rcases h7 with rfl | rfl
                · exact q_85
                · exact q_213
            · rcases h6 with rfl | rfl
              · rcases h7 with rfl | rfl
                · exact q_53
                · exact q_181
              · rcases h7 with rfl | rfl
                · exact q_117
                · exact q_245
        · rcases h4 with rfl | rfl
          · rcases h5 with rfl | rfl
            · rcases h6 with rfl | rfl
              · rcases h7 with rfl | rfl
                · exact q_13
                · exact q_141
              · rcases h7 with rfl | rfl
                · exact q_77
                · exact q_205
            · rcases h6 with rfl | rfl
              · rcases h7 with rfl | rfl
                · exact q_45
                · exact q_173
              · rcases h7 with rfl | rfl
                · exact q_109
                · exact q_237
          · rcases h5 with rfl | rfl
            · rcases h6 with rfl | rfl
              · rcases h7 with rfl | rfl
                · exact q_29
                · exact q_157
              · rcases h7 with rfl | rfl
                · exact q_93
                · exact q_221
            · rcases h6 with rfl | rfl
              · rcases h7 with rfl | rfl
                · exact q_61
                · exact q_189
              · rcases h7 with rfl | rfl
                · exact q_125
                · exact q_253
    · rcases h2 with rfl | rfl
      · rcases h3 with rfl | rfl
        · rcases h4 with rfl | rfl
          · rcases h5 with rfl | rfl
            · rcases h6 with rfl | rfl
              · rcases h7 with rfl | rfl
                · exact q_3
                · exact q_131
              · rcases h7 with rfl | rfl
                · exact q_67
                · exact q_195
            · rcases h6 with rfl | rfl
              · rcases h7 with rfl | rfl
                · exact q_35
                · exact q_163
              · rcases h7 with rfl | rfl
                · exact q_99
                · exact q_227
          · rcases h5 with rfl | rfl
            · rcases h6 with rfl | rfl
              · rcases h7 with rfl | rfl
                · exact q_19
                · exact q_147
              · rcases h7 with rfl | rfl
                · exact q_83
                · exact q_211
            · rcases h6 with rfl | rfl
              · rcases h7 with rfl | rfl
                · exact q_51
                · exact q_179
              · rcases h7 with rfl | rfl
                · exact q_115
                · exact q_243
        · rcases h4 with rfl | rfl
          · rcases h5 with rfl | rfl
            · rcases h6 with rfl | rfl
              · rcases h7 with rfl | rfl
                · exact q_11
                · exact q_139
              · rcases h7 with rfl | rfl
                · exact q_75
                · exact q_203
            · rcases h6 with rfl | rfl
              · rcases h7 with rfl | rfl
                · exact q_43
                · exact q_171
              · rcases h7 with rfl | rfl
                · exact q_107
                · exact q_235
          · rcases h5 with rfl | rfl
            · rcases h6 with rfl | rfl
              · rcases h7 with rfl | rfl
                · exact q_27
                · exact q_155
              · rcases h7 with rfl | rfl
                · exact q_91
                · exact q_219
            · rcases h6 with rfl | rfl
              · rcases h7 with rfl | rfl
                · exact q_59
                · exact q_187
              · rcases h7 with rfl | rfl
                · exact q_123
                · exact q_251
      · rcases h3 with rfl | rfl
        · rcases h4 with rfl | rfl
          · rcases h5 with rfl | rfl
            · rcases h6 with rfl | rfl
              · rcases h7 with rfl | rfl
                · exact q_7
                · exact q_135
              · rcases h7 with rfl | rfl
                · exact q_71
                · exact q_199
            · rcases h6 with rfl | rfl
              · rcases h7 with rfl | rfl
                · exact q_39
                · exact q_167
              · rcases h7 with rfl | rfl
                · exact q_103
                · exact q_231
          · rcases h5 with rfl | rfl
            · rcases h6 with rfl | rfl
              · rcases h7 with rfl | rfl
                · exact q_23
                · exact q_151
              · rcases h7 with rfl | rfl
                · exact q_87
                · exact q_215
            · rcases h6 with rfl | rfl
              · rcases h7 with rfl | rfl
                · exact q_55
                · exact q_183
              · rcases h7 with rfl | rfl
                · exact q_119
                · exact q_247
        · rcases h4 with rfl | rfl
          · rcases h5 with rfl | rfl
            · rcases h6 with rfl | rfl
              · rcases h7 with rfl | rfl
                · exact q_15
                · exact q_143
              · rcases h7 with rfl | rfl
                · exact q_79
                · exact q_207
            · rcases h6 with rfl | rfl
              · rcases h7 with rfl | rfl
                · exact q_47
                · exact q_175
              · rcases h7 with rfl | rfl
                · exact q_111
                · exact q_239
          · rcases h5 with rfl | rfl
            · rcases h6 with rfl | rfl
              · rcases h7 with rfl | rfl
                · exact q_31
                · exact q_159
              · rcases h7 with rfl | rfl
                · exact q_95
                · exact q_223
            · rcases h6 with rfl | rfl
              · rcases h7 with rfl | rfl
                · exact q_63
                · exact q_191
              · rcases h7 with rfl | rfl
                · exact q_127
                · exact q_255
theorem chain_ok {S : Store} (h : Hand S []) {w : Str} (hw : w ∈ six) : ∃ v S', m__law_chain [.obj 0, .str w] S = .ok v S' ∧ Hand S' [] ∧ Clean v := by
  obtain ⟨i, S1, e1, g1, i0, i1⟩ := take_ok (many := 4) h (by decide)
  obtain ⟨n, hn, hn2⟩ : ∃ n : Nat, 10 + i = n ∧ n ≤ 1000 := ⟨(10 + i).toNat, by rw [Int.toNat_of_nonneg (by omega)], by omega⟩
  obtain ⟨ρ', S2, e2, t, s3, rfl, rfl, ht⟩ := for_inv (g := gNm 3) (b := mSet 2 (mArgs Mir.gTup (mCons (mVar 2) (mCons (mC (.int 0)) (mCons (mArgs gInt (mCons (mOp (gEqD true) (mVar 1) (mC (.str "odd one"))) mNil)) mNil))))) (xs := rng n)
    (fun _ ρ S => ∃ t s3, ρ = [.val (.obj 0), .val (.str w), .val t, s3] ∧ S = S1 ∧ tree t = true) (by
      rintro pre x post ρ S' ex ⟨t, s3, rfl, rfl, ht⟩
      refine ⟨[.val (.obj 0), .val (.str w), .val (.tup [t, .int 0, .int (if !decide (w = "odd one") then 1 else 0)]), .val x], S', .inl ?_, _, _, rfl, rfl, by simp only [tree, ht, Bool.and_self]⟩
      simp only [ev_bind, ev_nox, ev_seq, ev_set, ev_setOwn, ev_share, ev_drop, ev_ret, ev_retOwn, ev_skip, ev_brk, ev_cnt, ev_ifS, ev_frzS, ev_append, ev_setIx, ev_for, ev_lc, ev_seqOf, ev_range, ev_var, ev_c, ev_op, ev_un, ev_args, ev_nil, ev_cons, ev_frz, ev_b, ev_and, ev_or, ev_not, ev_andV, ev_orV, ev_notV, ev_if, ev_chain, ev_isi, ev_ixOwn, ev_lenOwn, ev_call, ev_callK, ev_sl, ev_part, ev_true, ev_nm, ev_toB, frz, frzAt, toSeq_tup, toSeq_lst, toSeq_cl, toRet, mWipe, kbG, Mir.gTup, Mir.gLst, List.getElem?_cons_zero, List.getElem?_cons_succ, List.set_cons_zero, List.set_cons_succ, List.length_cons, List.length_nil, List.append_nil, List.nil_append, List.cons_append, Nat.reduceAdd, Nat.reduceLeDiff, Nat.reduceEqDiff, Nat.zero_add, reduceIte, Bool.false_eq_true, Bool.not_true, Bool.not_false, and_self, sizeM_eq, gAddA, gAdd, gMulA, gMul, Mir.gSub, gFdiv, gMod, gLt, gLe, gGt, gGe, gLen, gInt, gAbs, gNeg, neD_str, Nat.zero_le]) [.val (.obj 0), .val (.str w), .val (.tup [.int 0, .int 1, .int 2]), .none] S1 ⟨_, _, rfl, rfl, rfl⟩
  refine ⟨t, S2, ?_, g1, tree_clean t ht⟩
  show (b__law_chain [.val (.obj 0), .val (.str w), .none, .none] S).bind toRet = _
  unfold b__law_chain
  unfold rng at e2
  rw [d_take]
  simp only [ev_bind, ev_nox, ev_seq, ev_set, ev_setOwn, ev_share, ev_drop, ev_ret, ev_retOwn, ev_skip, ev_brk, ev_cnt, ev_ifS, ev_frzS, ev_append, ev_setIx, ev_for, ev_lc, ev_seqOf, ev_range, ev_var, ev_c, ev_op, ev_un, ev_args, ev_nil, ev_cons, ev_frz, ev_b, ev_and, ev_or, ev_not, ev_andV, ev_orV, ev_notV, ev_if, ev_chain, ev_isi, ev_ixOwn, ev_lenOwn, ev_call, ev_callK, ev_sl, ev_part, ev_true, ev_nm, ev_toB, frz, frzAt, toSeq_tup, toSeq_lst, toSeq_cl, toRet, mWipe, kbG, Mir.gTup, Mir.gLst, List.getElem?_cons_zero, List.getElem?_cons_succ, List.set_cons_zero, List.set_cons_succ, List.length_cons, List.length_nil, List.append_nil, List.nil_append, List.cons_append, Nat.reduceAdd, Nat.reduceLeDiff, Nat.reduceEqDiff, Nat.zero_add, reduceIte, Bool.false_eq_true, Bool.not_true, Bool.not_false, and_self, sizeM_eq, gAddA, gAdd, gMulA, gMul, Mir.gSub, gFdiv, gMod, gLt, gLe, gGt, gGe, gLen, gInt, gAbs, gNeg, e1, hn, gRange1, range62_ok (i := (n : Int)) (by omega) (by omega), Int.toNat_natCast, e2, Nat.zero_le]
end K07
set_option maxHeartbeats 4000000
namespace K07
open PySem L2 Mir
def ClaimOk (c : PV) : Prop := Clean c ∧ ∀ w t, c = .tup [.str w, t] → w ∈ six ∨ w ∈ sixB
def sixP : List PV := [.tup [.str "all no", .tup [.int 0, .int 0]], .tup [.str "all yes", .tup [.int 1, .int 1]], .tup [.str "and", .tup [.int 0, .int 0, .int 0, .int 1]], .tup [.str "or", .tup [.int 0, .int 1, .int 1, .int 1]], .tup [.str "majority", .tup [.int 0, .int 0, .int 0, .int 1, .int 0, .int 1, .int 1, .int 1]], .tup [.str "odd one", .tup [.int 0, .int 1, .int 1, .int 0, .int 1, .int 0, .int 0, .int 1]]]
theorem six_ok (S : Store) : m__law_six [] S = .ok (.lst sixP) S := by kernel_rfl
/-- each pair of the six: its word, its table widened -/
theorem six_wide : ∀ y ∈ sixP, ∃ w p, y = .tup [.str w, p] ∧ w ∈ six ∧ ∀ S, ∃ k W, m__law_places_of [p] S = .ok k S ∧ m__law_widened [p, k] S = .ok (rowP W) S :=
  tb_cons ⟨_, _, rfl, by decide, fun S => ⟨.int 1, [0, 0, 0, 0, 0, 0, 0, 0], by kernel_rfl, by kernel_rfl⟩⟩ (tb_cons ⟨_, _, rfl, by decide, fun S => ⟨.int 1, [1, 1, 1, 1, 1, 1, 1, 1], by kernel_rfl, by kernel_rfl⟩⟩ (tb_cons ⟨_, _, rfl, by decide, fun S => ⟨.int 2, [0, 0, 0, 0, 0, 0, 1, 1], by kernel_rfl, by kernel_rfl⟩⟩
  (tb_cons ⟨_, _, rfl, by decide, fun S => ⟨.int 2, [0, 0, 1, 1, 1, 1, 1, 1], by kernel_rfl, by kernel_rfl⟩⟩ (tb_cons ⟨_, _, rfl, by decide, fun S => ⟨.int 3, [0, 0, 0, 1, 0, 1, 1, 1], by kernel_rfl, by kernel_rfl⟩⟩ (tb_cons ⟨_, _, rfl, by decide, fun S => ⟨.int 3, [0, 1, 1, 0, 1, 0, 0, 1], by kernel_rfl, by kernel_rfl⟩⟩ tb_nil)))))
def B_c1 : Rho → Store → Res Out :=
  (mIfS (mB (mOp (gEqD false) (mVar 1) (mCall 2 m__law_widened [] (mCons (mVar 4) (mCons (mCall 1 m__law_places_of [] (mCons (mVar 4) mNil)) mNil)))))
    (mAppend 3 (mArgs gTup (mCons (mVar 2) (mCons (mCall 2 m__law_chain [] (mCons (mVar 0) (mCons (mVar 2) mNil))) mNil))))
    mSkip)
theorem claim_word {w : Str} {t : PV} (h : w ∈ six ∨ w ∈ sixB) (ht : Clean t) : ClaimOk (.tup [.str w, t]) := ⟨clean_tup fun x hx => by
  simp only [List.mem_cons, List.not_mem_nil, or_false] at hx
  rcases hx with rfl | rfl
  · rfl
  · exact ht, fun w' t' e => by cases e; exact h⟩
theorem c1_ok {r : List Int} {S : Store} (h : Hand S []) {cs : List PV} (hl : cs.length ≤ 12) (hc : ∀ c ∈ cs, ClaimOk c) (s2 s4 : Slot) :
    ∃ cs' s2' s4' S', mForGo (gUn 2 (gsCons (gNm 2) (gsCons (gNm 4) gsNil))) B_c1 sixP [.val (.obj 0), .val (rowP r), s2, .own (.lst cs), s4, .none, .none, .none] S = .ok (.nx [.val (.obj 0), .val (rowP r), s2', .own (.lst cs'), s4', .none, .none, .none]) S' ∧ Hand S' [] ∧ (∀ c ∈ cs', ClaimOk c) ∧ cs'.length ≤ 18 := by
  obtain ⟨ρ', S', e, cs', a, b, rfl, g, h1, h2⟩ := for_inv (g := gUn 2 (gsCons (gNm 2) (gsCons (gNm 4) gsNil))) (b := B_c1) (xs := sixP) (fun pre ρ S => ∃ cs s2 s4, ρ = [.val (.obj 0), .val (rowP r), s2, .own (.lst cs), s4, .none, .none, .none] ∧ Hand S [] ∧ (∀ c ∈ cs, ClaimOk c) ∧ cs.length ≤ 12 + pre.length) (by
    rintro pre y post ρ S' ex ⟨cs, s2, s4, rfl, g, hc, hl⟩
    have hp : pre.length < 6 := by
      have := congrArg List.length ex
      simp [sixP] at this; omega
    obtain ⟨w, p, rfl, hw, hk⟩ := six_wide y (by rw [ex]; simp)
    obtain ⟨k, W, k1, k2⟩ := hk S'
    by_cases hr : r = W
    · obtain ⟨v, S2, e2, g2, cv⟩ := chain_ok g hw
      refine ⟨_, S2, .inl ?_, cs ++ [.tup [.str w, v]], .val (.str w), .val p, rfl, g2, fun c hx => ?_, by simp; omega⟩
      · unfold B_c1
        simp only [ev_bind, ev_nox, ev_seq, ev_set, ev_setOwn, ev_share, ev_drop, ev_ret, ev_retOwn, ev_skip, ev_brk, ev_cnt, ev_ifS, ev_frzS, ev_append, ev_setIx, ev_for, ev_lc, ev_seqOf, ev_range, ev_var, ev_c, ev_op, ev_un, ev_args, ev_nil, ev_cons, ev_frz, ev_b, ev_and, ev_or, ev_not, ev_andV, ev_orV, ev_notV, ev_if, ev_chain, ev_isi, ev_ixOwn, ev_lenOwn, ev_call, ev_callK, ev_sl, ev_part, ev_true, ev_nm, ev_toB, frz, frzAt, toSeq_tup, toSeq_lst, toSeq_cl, toRet, mWipe, kbG, Mir.gTup, Mir.gLst, List.getElem?_cons_zero, List.getElem?_cons_succ, List.set_cons_zero, List.set_cons_succ, List.length_cons, List.length_nil, List.append_nil, List.nil_append, List.cons_append, Nat.reduceAdd, Nat.reduceLeDiff, Nat.reduceEqDiff, Nat.zero_add, reduceIte, Bool.false_eq_true, Bool.not_true, Bool.not_false, and_self, sizeM_eq, ev_bindExc, ev_asg, ev_unTup, ev_unLst, ev_tupM, ev_gsCons, ev_gsNil, ev_raise, ev_tryL, ev_tryOk, ev_tryExc, ev_kin, ev_kget, ev_index, eqD_int, neD_int, k1, k2, eqD_row, decide_eq_true hr, e2, Nat.zero_le, show cs.length < 100000 by omega]
      · rcases List.mem_append.mp hx with hx | hx
        · exact hc c hx
        · rw [List.mem_singleton.mp hx]; exact claim_word (.inl hw) cv
    · refine ⟨_, S', .inl ?_, cs, .val (.str w), .val p, rfl, g, hc, by simp; omega⟩
      unfold B_c1
      simp only [ev_bind, ev_nox, ev_seq, ev_set, ev_setOwn, ev_share, ev_drop, ev_ret, ev_retOwn, ev_skip, ev_brk, ev_cnt, ev_ifS, ev_frzS, ev_append, ev_setIx, ev_for, ev_lc, ev_seqOf, ev_range, ev_var, ev_c, ev_op, ev_un, ev_args, ev_nil, ev_cons, ev_frz, ev_b, ev_and, ev_or, ev_not, ev_andV, ev_orV, ev_notV, ev_if, ev_chain, ev_isi, ev_ixOwn, ev_lenOwn, ev_call, ev_callK, ev_sl, ev_part, ev_true, ev_nm, ev_toB, frz, frzAt, toSeq_tup, toSeq_lst, toSeq_cl, toRet, mWipe, kbG, Mir.gTup, Mir.gLst, List.getElem?_cons_zero, List.getElem?_cons_succ, List.set_cons_zero, List.set_cons_succ, List.length_cons, List.length_nil, List.append_nil, List.nil_append, List.cons_append, Nat.reduceAdd, Nat.reduceLeDiff, Nat.reduceEqDiff, Nat.zero_add, reduceIte, Bool.false_eq_true, Bool.not_true, Bool.not_false, and_self, sizeM_eq, ev_bindExc, ev_asg, ev_unTup, ev_unLst, ev_tupM, ev_gsCons, ev_gsNil, ev_raise, ev_tryL, ev_tryOk, ev_tryExc, ev_kin, ev_kget, ev_index, eqD_int, neD_int, k1, k2, eqD_row, decide_eq_false hr]) _ S ⟨cs, s2, s4, rfl, h, hc, by simpa using hl⟩
  exact ⟨cs', a, b, S', e, g, h1, by simpa [sixP] using h2⟩
end K07
set_option maxHeartbeats 4000000
namespace K07
open PySem L2 Mir
theorem claim_no {c : PV} (hc : Clean c) (h : ∀ w t, c ≠ .tup [.str w, t]) : ClaimOk c := ⟨hc, fun w t e => absurd e (h w t)⟩
theorem word_at {S S1 : Store} {i : Int} (h0 : 0 ≤ i) (h1 : i < 6) : ∃ w, gIx (.lst [.str "all no", .str "all yes", .str "and", .str "or", .str "majority", .str "odd one"]) (.int i) S = .ok (.str w) S ∧ w ∈ six := by
  have : i = 0 ∨ i = 1 ∨ i = 2 ∨ i = 3 ∨ i = 4 ∨ i = 5 := by omega
  rcases this with rfl | rfl | rfl | rfl | rfl | rfl
  · exact ⟨"all no", rfl, by decide⟩
  · exact ⟨"all yes", rfl, by decide⟩
  · exact ⟨"and", rfl, by decide⟩
  · exact ⟨"or", rfl, by decide⟩
  · exact ⟨"majority", rfl, by decide⟩
  · exact ⟨"odd one", rfl, by decide⟩
/-- the first twelve claims -/
theorem first_ok {w : Str} (hw : w ∈ six) {d2 d3 : PV} (h2 : Clean d2) (h3 : Clean d3) : ∀ c ∈ ([.tup [.str w, d2], .tup [.str w, d3], .tup [.int 0, .int 1], .tup [.str w], .non, .str w, .tup [], .int 0, .tup [.lst [], .int 0], .tup [.lst [.str "and"], .int 0], .tup [.tup [.str w], .tup [.int 0, .int 1, .int 2]], .tup [.non, .tup [.int 0, .int 1, .int 2]]] : List PV), ClaimOk c := by
  intro c hc
  simp only [List.mem_cons, List.not_mem_nil, or_false] at hc
  rcases hc with rfl | rfl | rfl | rfl | rfl | rfl | rfl | rfl | rfl | rfl | rfl | rfl
  · exact claim_word (.inl hw) h2
  · exact claim_word (.inl hw) h3
  all_goals exact claim_no rfl (fun w' t' e => by cases e)
end K07
set_option maxHeartbeats 4000000
namespace K07
open PySem L2 Mir
theorem blank_ok (S : Store) : ∀ w ∈ six, ∃ b, b ∈ sixB ∧ gAddA (.str w) (.str " ") S = .ok (.str b) S :=
  tb_cons ⟨"all no ", by decide, by kernel_rfl⟩ (tb_cons ⟨"all yes ", by decide, by kernel_rfl⟩ (tb_cons ⟨"and ", by decide, by kernel_rfl⟩ (tb_cons ⟨"or ", by decide, by kernel_rfl⟩ (tb_cons ⟨"majority ", by decide, by kernel_rfl⟩ (tb_cons ⟨"odd one ", by decide, by kernel_rfl⟩ tb_nil)))))
theorem claims_ok {r : List Int} (T : Row8 r) {S : Store} (h : Hand S []) : ∃ cs S', m__law_claims [.obj 0, rowP r] S = .ok (.lst cs) S' ∧ Hand S' [] ∧ ∀ c ∈ cs, ClaimOk c := by
  obtain ⟨i, S1, e1, g1, i0, i1⟩ := take_ok (many := 6) h (by decide)
  obtain ⟨w, ew, hw⟩ := word_at (S := S1) (S1 := S1) i0 i1
  have lc : mLcGo (gTupM 2 (gsCons (gNm 2) (gsCons (gNm 4) gsNil))) mTrue (mVar 2) [.val (.obj 0), .val (rowP r), .none, .none, .none, .none, .none, .none] sixP S = .ok [.str "all no", .str "all yes", .str "and", .str "or", .str "majority", .str "odd one"] S := by kernel_rfl
  obtain ⟨d2, S2, e2, g2, t2⟩ := drawn_ok 2 6 (by decide) g1
  obtain ⟨d3, S3, e3, g3, t3⟩ := drawn_ok 3 6 (by decide) g2
  have e2' : m__law_drawn_term 6 [.obj 0, .int 2] S1 = .ok d2 S2 := e2
  have e3' : m__law_drawn_term 6 [.obj 0, .int 3] S2 = .ok d3 S3 := e3
  obtain ⟨cs, s2, s4, S4, e4, g4, hc, hl⟩ := c1_ok (r := r) g3 (cs := [.tup [.str w, d2], .tup [.str w, d3], .tup [.int 0, .int 1], .tup [.str w], .non, .str w, .tup [], .int 0, .tup [.lst [], .int 0], .tup [.lst [.str "and"], .int 0], .tup [.tup [.str w], .tup [.int 0, .int 1, .int 2]], .tup [.non, .tup [.int 0, .int 1, .int 2]]]) (by simp) (first_ok hw (tree_clean _ t2) (tree_clean _ t3)) (.val (.str w)) .none
  unfold B_c1 at e4
  rcases termed T with hp | ⟨w2, hw2, t, k, tt, ff⟩
  · have hp := hp S4
    refine ⟨cs, S4, ?_, g4, hc⟩
    show (b__law_claims [.val (.obj 0), .val (rowP r), .none, .none, .none, .none, .none, .none] S).bind toRet = _
    unfold b__law_claims
    rw [d_take]
    simp only [ev_bind, ev_nox, ev_seq, ev_set, ev_setOwn, ev_share, ev_drop, ev_ret, ev_retOwn, ev_skip, ev_brk, ev_cnt, ev_ifS, ev_frzS, ev_append, ev_setIx, ev_for, ev_lc, ev_seqOf, ev_range, ev_var, ev_c, ev_op, ev_un, ev_args, ev_nil, ev_cons, ev_frz, ev_b, ev_and, ev_or, ev_not, ev_andV, ev_orV, ev_notV, ev_if, ev_chain, ev_isi, ev_ixOwn, ev_lenOwn, ev_call, ev_callK, ev_sl, ev_part, ev_true, ev_nm, ev_toB, frz, frzAt, toSeq_tup, toSeq_lst, toSeq_cl, toRet, mWipe, kbG, Mir.gTup, Mir.gLst, List.getElem?_cons_zero, List.getElem?_cons_succ, List.set_cons_zero, List.set_cons_succ, List.length_cons, List.length_nil, List.append_nil, List.nil_append, List.cons_append, Nat.reduceAdd, Nat.reduceLeDiff, Nat.reduceEqDiff, Nat.zero_add, reduceIte, Bool.false_eq_true, Bool.not_true, Bool.not_false, and_self, sizeM_eq, ev_bindExc, ev_asg, ev_unTup, ev_unLst, ev_tupM, ev_gsCons, ev_gsNil, ev_raise, ev_tryL, ev_tryOk, ev_tryExc, ev_kin, ev_kget, ev_index, eqD_int, neD_int, gAddA, gAdd, gMulA, gMul, Mir.gSub, gFdiv, gMod, gLt, gLe, gGt, gGe, gLen, gInt, gAbs, gNeg, six_ok, show sixP.length = 6 from rfl, lc, e1, ew, e2', e3', gCat, Nat.zero_le, e4, hp]
  · obtain ⟨j, S5, e5, g5, j0, j1⟩ := take_ok (many := 6) g4 (by decide)
    obtain ⟨w3, ew3, hw3⟩ := word_at (S := S5) (S1 := S5) j0 j1
    have lc2 : mLcGo (gTupM 2 (gsCons (gNm 4) (gsCons (gNm 7) gsNil))) mTrue (mVar 4) [.val (.obj 0), .val (rowP r), .val (.str w2), .val (.lst cs), .none, .val t, .none, .none] sixP S4 = .ok [.str "all no", .str "all yes", .str "and", .str "or", .str "majority", .str "odd one"] S4 := by kernel_rfl
    obtain ⟨wb, hwb, eb⟩ := blank_ok S5 w2 hw2
    have ct := tree_clean t tt
    have more : ∀ c ∈ ([.tup [.str w2, t], .tup [.str w3, t], .lst [.str w2, t], .tup [.str w2, t, .int 0], .tup [.str wb, t], .tup [t, .str w2], .tup [.non, t], .tup [.str w2, .lst [t]]] : List PV), ClaimOk c := by
      intro c hc
      simp only [List.mem_cons, List.not_mem_nil, or_false] at hc
      have cs1 : Clean (.str w2) := rfl
      have two : ∀ x y : PV, Clean x → Clean y → ∀ z ∈ [x, y], Clean z := fun x y h1 h2 => tb_cons h1 (tb_cons h2 tb_nil)
      rcases hc with rfl | rfl | rfl | rfl | rfl | rfl | rfl | rfl
      · exact claim_word (.inl hw2) ct
      · exact claim_word (.inl hw3) ct
      · exact claim_no (clean_lst (two _ _ cs1 ct)) (fun w t e => by cases e)
      · exact claim_no (clean_tup (tb_cons cs1 (tb_cons ct (tb_cons rfl tb_nil)))) (fun w t e => by cases e)
      · exact claim_word (.inr hwb) ct
      · refine claim_no (clean_tup (two _ _ ct cs1)) (fun w t' e => ?_)
        cases e
        simp [tree] at tt
      · exact claim_no (clean_tup (two _ _ rfl ct)) (fun w t e => by cases e)
      · exact claim_word (.inl hw2) (clean_lst (tb_cons ct tb_nil))
    simp only [gAddA, gAdd, gMulA, gMul, Mir.gSub, gFdiv, gMod, gLt, gLe, gGt, gGe, gLen, gInt, gAbs, gNeg, ev_bind, ev_nox, ev_seq, ev_set, ev_setOwn, ev_share, ev_drop, ev_ret, ev_retOwn, ev_skip, ev_brk, ev_cnt, ev_ifS, ev_frzS, ev_append, ev_setIx, ev_for, ev_lc, ev_seqOf, ev_range, ev_var, ev_c, ev_op, ev_un, ev_args, ev_nil, ev_cons, ev_frz, ev_b, ev_and, ev_or, ev_not, ev_andV, ev_orV, ev_notV, ev_if, ev_chain, ev_isi, ev_ixOwn, ev_lenOwn, ev_call, ev_callK, ev_sl, ev_part, ev_true, ev_nm, ev_toB, frz, frzAt, toSeq_tup, toSeq_lst, toSeq_cl, toRet, mWipe, kbG, Mir.gTup, Mir.gLst, List.getElem?_cons_zero, List.getElem?_cons_succ, List.set_cons_zero, List.set_cons_succ, List.length_cons, List.length_nil, List.append_nil, List.nil_append, List.cons_append, Nat.reduceAdd, Nat.reduceLeDiff, Nat.reduceEqDiff, Nat.zero_add, reduceIte, Bool.false_eq_true, Bool.not_true, Bool.not_false, and_self, sizeM_eq] at eb
    obtain ⟨f1, f2, _⟩ := ff S4
    obtain ⟨_, _, f3⟩ := ff S5
    have l18 : cs.length ≤ 18 := hl
    by_cases hk : k < 334
    · obtain ⟨v, S6, e6, g6, cv⟩ := bent_ok g5 tt
      refine ⟨cs ++ [.tup [.str w2, t], .tup [.str w3, t], .lst [.str w2, t], .tup [.str w2, t, .int 0], .tup [.str wb, t]] ++ [.tup [t, .str w2], .tup [.non, t], .tup [.str w2, .lst [t]]] ++ [.tup [.str w2, v], .tup [.str w2, .tup [t, t, t]]], S6, ?_, g6, fun c hx => ?_⟩
      · show (b__law_claims [.val (.obj 0), .val (rowP r), .none, .none, .none, .none, .none, .none] S).bind toRet = _
        unfold b__law_claims
        rw [d_take]
        simp only [ev_bind, ev_nox, ev_seq, ev_set, ev_setOwn, ev_share, ev_drop, ev_ret, ev_retOwn, ev_skip, ev_brk, ev_cnt, ev_ifS, ev_frzS, ev_append, ev_setIx, ev_for, ev_lc, ev_seqOf, ev_range, ev_var, ev_c, ev_op, ev_un, ev_args, ev_nil, ev_cons, ev_frz, ev_b, ev_and, ev_or, ev_not, ev_andV, ev_orV, ev_notV, ev_if, ev_chain, ev_isi, ev_ixOwn, ev_lenOwn, ev_call, ev_callK, ev_sl, ev_part, ev_true, ev_nm, ev_toB, frz, frzAt, toSeq_tup, toSeq_lst, toSeq_cl, toRet, mWipe, kbG, Mir.gTup, Mir.gLst, List.getElem?_cons_zero, List.getElem?_cons_succ, List.set_cons_zero, List.set_cons_succ, List.length_cons, List.length_nil, List.append_nil, List.nil_append, List.cons_append, Nat.reduceAdd, Nat.reduceLeDiff, Nat.reduceEqDiff, Nat.zero_add, reduceIte, Bool.false_eq_true, Bool.not_true, Bool.not_false, and_self, sizeM_eq, ev_bindExc, ev_asg, ev_unTup, ev_unLst, ev_tupM, ev_gsCons, ev_gsNil, ev_raise, ev_tryL, ev_tryOk, ev_tryExc, ev_kin, ev_kget, ev_index, eqD_int, neD_int, gAddA, gAdd, gMulA, gMul, Mir.gSub, gFdiv, gMod, gLt, gLe, gGt, gGe, gLen, gInt, gAbs, gNeg, six_ok, show sixP.length = 6 from rfl, lc, e1, ew, e2', e3', gCat, Nat.zero_le, e4, f1, f2, lc2, e5, ew3, eb, f3, decide_eq_true hk, e6, List.length_append,
          show cs.length + 5 ≤ 100000 by omega, show cs.length + 5 + 3 ≤ 100000 by omega, show cs.length + 5 + 3 + 2 ≤ 100000 by omega]
      · rcases List.mem_append.mp hx with hx | hx
        · rw [List.append_assoc] at hx
          rcases List.mem_append.mp hx with hx | hx
          · exact hc c hx
          · exact more c hx
        · simp only [List.mem_cons, List.not_mem_nil, or_false] at hx
          rcases hx with rfl | rfl
          · exact claim_word (.inl hw2) cv
          · exact claim_word (.inl hw2) (clean_tup (tb_cons ct (tb_cons ct (tb_cons ct tb_nil))))
    · refine ⟨cs ++ [.tup [.str w2, t], .tup [.str w3, t], .lst [.str w2, t], .tup [.str w2, t, .int 0], .tup [.str wb, t]] ++ [.tup [t, .str w2], .tup [.non, t], .tup [.str w2, .lst [t]]], S5, ?_, g5, fun c hx => ?_⟩
      · show (b__law_claims [.val (.obj 0), .val (rowP r), .none, .none, .none, .none, .none, .none] S).bind toRet = _
        unfold b__law_claims
        rw [d_take]
        simp only [ev_bind, ev_nox, ev_seq, ev_set, ev_setOwn, ev_share, ev_drop, ev_ret, ev_retOwn, ev_skip, ev_brk, ev_cnt, ev_ifS, ev_frzS, ev_append, ev_setIx, ev_for, ev_lc, ev_seqOf, ev_range, ev_var, ev_c, ev_op, ev_un, ev_args, ev_nil, ev_cons, ev_frz, ev_b, ev_and, ev_or, ev_not, ev_andV, ev_orV, ev_notV, ev_if, ev_chain, ev_isi, ev_ixOwn, ev_lenOwn, ev_call, ev_callK, ev_sl, ev_part, ev_true, ev_nm, ev_toB, frz, frzAt, toSeq_tup, toSeq_lst, toSeq_cl, toRet, mWipe, kbG, Mir.gTup, Mir.gLst, List.getElem?_cons_zero, List.getElem?_cons_succ, List.set_cons_zero, List.set_cons_succ, List.length_cons, List.length_nil, List.append_nil, List.nil_append, List.cons_append, Nat.reduceAdd, Nat.reduceLeDiff, Nat.reduceEqDiff, Nat.zero_add, reduceIte, Bool.false_eq_true, Bool.not_true, Bool.not_false, and_self, sizeM_eq, ev_bindExc, ev_asg, ev_unTup, ev_unLst, ev_tupM, ev_gsCons, ev_gsNil, ev_raise, ev_tryL, ev_tryOk, ev_tryExc, ev_kin, ev_kget, ev_index, eqD_int, neD_int, gAddA, gAdd, gMulA, gMul, Mir.gSub, gFdiv, gMod, gLt, gLe, gGt, gGe, gLen, gInt, gAbs, gNeg, six_ok, show sixP.length = 6 from rfl, lc, e1, ew, e2', e3', gCat, Nat.zero_le, e4, f1, f2, lc2, e5, ew3, eb, f3, decide_eq_false hk, List.length_append,
          show cs.length + 5 ≤ 100000 by omega, show cs.length + 5 + 3 ≤ 100000 by omega]
      · rw [List.append_assoc] at hx
        rcases List.mem_append.mp hx with hx | hx
        · exact hc c hx
        · exact more c hx
end K07
set_option maxHeartbeats 4000000
/-! MirS: texts of data are texts that can be laid; == of such. -/
namespace Mir
open PySem L2
theorem sok_app {a b : Str} (h : PyData.strOk a = true) (g : PyData.strOk b = true) : PyData.strOk (a ++ b) = true := by
  unfold PyData.strOk at *
  show ((a.cps ++ b.cps).all _) = true
  rw [Array.all_append, h, g]
  rfl
theorem sok_lit (s : String) : PyData.strOk (s : Str) = true := by
  unfold PyData.strOk
  show (Str.ofString s).cps.all _ = true
  rw [Str.ofString_eq_toList]
  rw [Array.all_eq_true']
  intro x hx
  simp only [List.mem_toArray, List.mem_map] at hx
  obtain ⟨c, _, rfl⟩ := hx
  have h := c.valid
  have e : c.toNat = c.val.toNat := rfl
  simp only [UInt32.isValidChar, Nat.isValidChar] at h
  rw [decide_eq_true_eq, e]
  omega
theorem sok_join {sep : Str} (h : PyData.strOk sep = true) : ∀ {l : List Str}, (∀ x ∈ l, PyData.strOk x = true) → PyData.strOk (Str.join sep l) = true
  | [], _ => by simp only [Str.join]; decide +kernel
  | [x], g => g x List.mem_cons_self
  | x :: y :: r, g => sok_app (sok_app (g x List.mem_cons_self) h) (sok_join h fun z hz => g z (List.mem_cons_of_mem _ hz))
mutual
/-- data whose texts are told by plain signs -/
def plainD : PyData → Bool
  | .none | .bool _ | .int _ => true
  | .str x => PyData.strOk (PyData.str x).shown
  | .list xs | .tuple xs => plainDs xs
  | .dict _ => false
def plainDs : List PyData → Bool
  | [] => true
  | x :: xs => plainD x && plainDs xs
end
mutual
theorem sok_shown : ∀ d : PyData, plainD d = true → PyData.strOk d.shown = true
  | .none, _ => by rw [PyData.shown_none]; exact sok_lit _
  | .bool b, _ => by rw [PyData.shown_bool]; cases b <;> exact sok_lit _
  | .int i, _ => by rw [PyData.shown_int]; exact sok_lit _
  | .str x, h => by simpa only [plainD] using h
  | .list xs, h => by
    rw [PyData.shown_list]
    exact sok_app (sok_app (sok_lit _) (sok_join (sok_lit _) (sok_shownAll xs (by simpa only [plainD] using h)))) (sok_lit _)
  | .tuple xs, h => by
    rw [PyData.shown_tuple]
    refine sok_app (sok_app (sok_lit _) (sok_join (sok_lit _) (sok_shownAll xs (by simpa only [plainD] using h)))) ?_
    exact sok_lit _
  | .dict _, h => by simp [plainD] at h
theorem sok_shownAll : ∀ xs : List PyData, plainDs xs = true → ∀ t ∈ PyData.shownAll xs, PyData.strOk t = true
  | [], _, t, ht => by simp [PyData.shownAll_nil] at ht
  | x :: xs, h, t, ht => by
    simp only [plainDs, Bool.and_eq_true] at h
    rw [PyData.shownAll_cons] at ht
    rcases List.mem_cons.mp ht with rfl | ht
    · exact sok_shown x h.1
    · exact sok_shownAll xs h.2 t ht
end
theorem plainDs_of : ∀ {xs : List PyData}, (∀ x ∈ xs, plainD x = true) → plainDs xs = true
  | [], _ => rfl
  | x :: xs, h => by simp only [plainDs, h x List.mem_cons_self, plainDs_of fun y hy => h y (List.mem_cons_of_mem _ hy), Bool.and_self]
theorem toDs_get : ∀ {xs : List PV} {ds : List PyData}, toDs xs = some ds → ∀ d ∈ ds, ∃ x ∈ xs, toD x = some d
  | [], ds, h, d, hd => by simp only [toDs, Option.some.injEq] at h; subst h; cases hd
  | x :: xs, ds, h, d, hd => by
    simp only [toDs] at h
    cases h1 : toD x with
    | none => rw [h1] at h; cases h
    | some e =>
      cases h2 : toDs xs with
      | none => rw [h1, h2] at h; cases h
      | some es =>
        rw [h1, h2] at h
        simp only [Option.some.injEq] at h
        subst h
        rcases List.mem_cons.mp hd with rfl | hd
        · exact ⟨x, List.mem_cons_self, h1⟩
        · obtain ⟨y, hy, e⟩ := toDs_get h2 d hd
          exact ⟨y, List.mem_cons_of_mem _ hy, e⟩
/-- data whose text is told by plain signs, as a value -/
def Pln (x : PV) : Prop := ∀ d, toD x = some d → plainD d = true
theorem pln_int (i : Int) : Pln (.int i) := fun d h => by cases h; rfl
theorem pln_bl (b : Bool) : Pln (.bl b) := fun d h => by cases h; rfl
theorem pln_tup {xs : List PV} (h : ∀ x ∈ xs, Pln x) : Pln (.tup xs) := fun d hd => by
  simp only [toD, Option.map_eq_some_iff] at hd
  obtain ⟨ds, e, rfl⟩ := hd
  exact plainDs_of fun z hz => by
    obtain ⟨x, hx, ex⟩ := toDs_get e z hz
    exact h x hx z ex
theorem pln_lst {xs : List PV} (h : ∀ x ∈ xs, Pln x) : Pln (.lst xs) := fun d hd => by
  simp only [toD, Option.map_eq_some_iff] at hd
  obtain ⟨ds, e, rfl⟩ := hd
  exact plainDs_of fun z hz => by
    obtain ⟨x, hx, ex⟩ := toDs_get e z hz
    exact h x hx z ex
theorem pln_row (r : List Int) : Pln (rowP r) := pln_tup fun x hx => by
  obtain ⟨b, _, rfl⟩ := List.mem_map.mp hx
  exact pln_int b
theorem repr_pln {x : PV} (h : Pln x) {s : Str} {S : Store} (e : gRepr [x] S = .ok (.str s) S) : PyData.strOk s = true := by
  have e : (match toD x with | some d => (if reprOk d = true then Res.ok (PV.str d.shown) S else .bad) | none => .bad) = Res.ok (PV.str s) S := e
  cases q : toD x with
  | none => rw [q] at e; cases e
  | some d =>
    rw [q] at e
    simp only at e
    split at e
    · cases e
      exact sok_shown d (h d q)
    · cases e
/-- data that is not unlike itself -/
def Selfy (x : PV) : Prop := ∃ d, toD x = some d ∧ SeqAt.shaped d = true
theorem selfy_eq {x : PV} (h : Selfy x) (hx : ∀ a, x ≠ .str a) (S : Store) : gEqD false x x S = .ok (.bl true) S := by
  obtain ⟨d, e, hd⟩ := h
  rw [gEqD_else (by rintro ⟨a, _, h, _⟩; exact hx a h)]
  unfold gEqDeep
  rw [e]
  simp only [hd, Bool.and_self, if_true, SeqAt.eqv_refl d (SeqAt.canLay_of_shaped hd), Bool.false_eq_true, if_false]
theorem selfy_ne {x : PV} (h : Selfy x) (hx : ∀ a, x ≠ .str a) (S : Store) : gEqD true x x S = .ok (.bl false) S := by
  obtain ⟨d, e, hd⟩ := h
  rw [gEqD_else (by rintro ⟨a, _, h, _⟩; exact hx a h)]
  unfold gEqDeep
  rw [e]
  simp only [hd, Bool.and_self, if_true, SeqAt.eqv_refl d (SeqAt.canLay_of_shaped hd), Bool.not_true]
end Mir
set_option maxHeartbeats 4000000
namespace K07
open PySem L2 Mir
def midL (x : PV) (s2 s3 s4 s5 s6 s7 s8 : Slot) : Rho := [.val x, .val (.obj 0), s2, s3, s4, s5, s6, s7, s8, .none]
/-! ### the table -/
theorem six_wide2 : ∀ y ∈ sixP, ∃ w p k W, y = .tup [.str w, p] ∧ Row8 W ∧ ∀ S, m__law_places_of [p] S = .ok k S ∧ m__law_widened [p, k] S = .ok (rowP W) S :=
  tb_cons ⟨_, _, .int 1, [0, 0, 0, 0, 0, 0, 0, 0], rfl, ⟨rfl, by unfold Bits; decide⟩, fun S => ⟨by kernel_rfl, by kernel_rfl⟩⟩ (tb_cons ⟨_, _, .int 1, [1, 1, 1, 1, 1, 1, 1, 1], rfl, ⟨rfl, by unfold Bits; decide⟩, fun S => ⟨by kernel_rfl, by kernel_rfl⟩⟩ (tb_cons ⟨_, _, .int 2, [0, 0, 0, 0, 0, 0, 1, 1], rfl, ⟨rfl, by unfold Bits; decide⟩, fun S => ⟨by kernel_rfl, by kernel_rfl⟩⟩
  (tb_cons ⟨_, _, .int 2, [0, 0, 1, 1, 1, 1, 1, 1], rfl, ⟨rfl, by unfold Bits; decide⟩, fun S => ⟨by kernel_rfl, by kernel_rfl⟩⟩ (tb_cons ⟨_, _, .int 3, [0, 0, 0, 1, 0, 1, 1, 1], rfl, ⟨rfl, by unfold Bits; decide⟩, fun S => ⟨by kernel_rfl, by kernel_rfl⟩⟩ (tb_cons ⟨_, _, .int 3, [0, 1, 1, 0, 1, 0, 0, 1], rfl, ⟨rfl, by unfold Bits; decide⟩, fun S => ⟨by kernel_rfl, by kernel_rfl⟩⟩ tb_nil)))))
def B_if : Rho → Store → Res Out :=
  (mIfS (mB (mOp (gEqD false) (mCall 2 m__law_take [] (mCons (mVar 1) (mCons (mC (.int 3)) mNil))) (mC (.int 0))))
    (mSeq (mAsg (mOp gIx (mCall 0 m__law_six [] mNil) (mCall 2 m__law_take [] (mCons (mVar 1) (mCons (mC (.int 6)) mNil)))) (gUn 2 (gsCons (gNm 6) (gsCons (gNm 7) gsNil))))
    (mSet 3 (mCall 2 m__law_widened [] (mCons (mVar 7) (mCons (mCall 1 m__law_places_of [] (mCons (mVar 7) mNil)) mNil)))))
    mSkip)
theorem if_ok {r : List Int} (T : Row8 r) {S : Store} (h : Hand S []) (x : PV) (s2 : Slot) : ∃ r' s6 s7 S', B_if (midL x s2 (.val (rowP r)) .none .none .none .none .none) S = .ok (.nx (midL x s2 (.val (rowP r')) .none .none s6 s7 .none)) S' ∧ Hand S' [] ∧ Row8 r' := by
  obtain ⟨i, S1, e1, g1, i0, i1⟩ := take_ok (many := 3) h (by decide)
  by_cases hi : i = 0
  · obtain ⟨j, S2, e2, g2, j0, j1⟩ := take_ok (many := 6) g1 (by decide)
    obtain ⟨y, ey, hy⟩ := at_mem (xs := sixP) j0 j1
    obtain ⟨w, p, k, W, rfl, TW, hk⟩ := six_wide2 y hy
    obtain ⟨k1, k2⟩ := hk S2
    refine ⟨W, .val (.str w), .val p, S2, ?_, g2, TW⟩
    unfold B_if midL
    rw [d_take]
    simp only [ev_bind, ev_nox, ev_seq, ev_set, ev_setOwn, ev_share, ev_drop, ev_ret, ev_retOwn, ev_skip, ev_brk, ev_cnt, ev_ifS, ev_frzS, ev_append, ev_setIx, ev_for, ev_lc, ev_seqOf, ev_range, ev_var, ev_c, ev_op, ev_un, ev_args, ev_nil, ev_cons, ev_frz, ev_b, ev_and, ev_or, ev_not, ev_andV, ev_orV, ev_notV, ev_if, ev_chain, ev_isi, ev_ixOwn, ev_lenOwn, ev_call, ev_callK, ev_sl, ev_part, ev_true, ev_nm, ev_toB, frz, frzAt, toSeq_tup, toSeq_lst, toSeq_cl, toRet, mWipe, kbG, Mir.gTup, Mir.gLst, List.getElem?_cons_zero, List.getElem?_cons_succ, List.set_cons_zero, List.set_cons_succ, List.length_cons, List.length_nil, List.append_nil, List.nil_append, List.cons_append, Nat.reduceAdd, Nat.reduceLeDiff, Nat.reduceEqDiff, Nat.zero_add, reduceIte, Bool.false_eq_true, Bool.not_true, Bool.not_false, and_self, sizeM_eq, ev_bindExc, ev_asg, ev_unTup, ev_unLst, ev_tupM, ev_gsCons, ev_gsNil, ev_raise, ev_tryL, ev_tryOk, ev_tryExc, ev_kin, ev_kget, ev_index, eqD_int, neD_int, e1, hi, decide_true, six_ok, e2, gIx, ey, k1, k2]
  · refine ⟨r, .none, .none, S1, ?_, g1, T⟩
    unfold B_if midL
    rw [d_take]
    simp only [ev_bind, ev_nox, ev_seq, ev_set, ev_setOwn, ev_share, ev_drop, ev_ret, ev_retOwn, ev_skip, ev_brk, ev_cnt, ev_ifS, ev_frzS, ev_append, ev_setIx, ev_for, ev_lc, ev_seqOf, ev_range, ev_var, ev_c, ev_op, ev_un, ev_args, ev_nil, ev_cons, ev_frz, ev_b, ev_and, ev_or, ev_not, ev_andV, ev_orV, ev_notV, ev_if, ev_chain, ev_isi, ev_ixOwn, ev_lenOwn, ev_call, ev_callK, ev_sl, ev_part, ev_true, ev_nm, ev_toB, frz, frzAt, toSeq_tup, toSeq_lst, toSeq_cl, toRet, mWipe, kbG, Mir.gTup, Mir.gLst, List.getElem?_cons_zero, List.getElem?_cons_succ, List.set_cons_zero, List.set_cons_succ, List.length_cons, List.length_nil, List.append_nil, List.nil_append, List.cons_append, Nat.reduceAdd, Nat.reduceLeDiff, Nat.reduceEqDiff, Nat.zero_add, reduceIte, Bool.false_eq_true, Bool.not_true, Bool.not_false, and_self, sizeM_eq, ev_bindExc, ev_asg, ev_unTup, ev_unLst, ev_tupM, ev_gsCons, ev_gsNil, ev_raise, ev_tryL, ev_tryOk, ev_tryExc, ev_kin, ev_kget, ev_index, eqD_int, neD_int, e1, decide_eq_false hi]
/-! ### the claims -/
def B_cl : Rho → Store → Res Out :=
    (mSeq (mSet 8 (mCall 2 m_term_holds [] (mCons (mVar 3) (mCons (mVar 4) mNil))))
    (mIfS (mOr (mNot (mB (mIsi "bool" (mVar 8)))) (mB (mOp (gEqD true) (mVar 8) (mCall 2 m__law_claim_holds [] (mCons (mVar 3) (mCons (mVar 4) mNil))))))
    (mRet (mC (.bl false)))
    mSkip))
theorem noobj_bl (b : Bool) : NoObj (.bl b) := fun n e => by cases e
theorem ne_bl_self (b : Bool) (S : Store) : gEqD true (.bl b) (.bl b) S = .ok (.bl false) S := selfy_ne ⟨.bool b, rfl, rfl⟩ (fun a e => by cases e) S
theorem loop_cl {r : List Int} (T : Row8 r) {cs : List PV} (hc : ∀ c ∈ cs, ClaimOk c) (x : PV) (s2 s6 s7 : Slot) (S : Store) : ∃ s4 s8, mForGo (gNm 4) B_cl cs (midL x s2 (.val (rowP r)) .none .none s6 s7 .none) S = .ok (.nx (midL x s2 (.val (rowP r)) s4 .none s6 s7 s8)) S := by
  obtain ⟨ρ', S', e, s4, s8, rfl, rfl⟩ := for_inv (g := gNm 4) (b := B_cl) (xs := cs) (fun _ ρ S' => ∃ s4 s8, ρ = midL x s2 (.val (rowP r)) s4 .none s6 s7 s8 ∧ S' = S) (by
    rintro pre y post ρ S' ex ⟨s4, s8, rfl, rfl⟩
    obtain ⟨cy, wy⟩ := hc y (by rw [ex]; simp)
    obtain ⟨b, b1, b2⟩ := claim_eq T cy wy S'
    refine ⟨_, S', .inl ?_, .val y, .val (.bl b), rfl, rfl⟩
    unfold B_cl midL
    simp only [ev_bind, ev_nox, ev_seq, ev_set, ev_setOwn, ev_share, ev_drop, ev_ret, ev_retOwn, ev_skip, ev_brk, ev_cnt, ev_ifS, ev_frzS, ev_append, ev_setIx, ev_for, ev_lc, ev_seqOf, ev_range, ev_var, ev_c, ev_op, ev_un, ev_args, ev_nil, ev_cons, ev_frz, ev_b, ev_and, ev_or, ev_not, ev_andV, ev_orV, ev_notV, ev_if, ev_chain, ev_isi, ev_ixOwn, ev_lenOwn, ev_call, ev_callK, ev_sl, ev_part, ev_true, ev_nm, ev_toB, frz, frzAt, toSeq_tup, toSeq_lst, toSeq_cl, toRet, mWipe, kbG, Mir.gTup, Mir.gLst, List.getElem?_cons_zero, List.getElem?_cons_succ, List.set_cons_zero, List.set_cons_succ, List.length_cons, List.length_nil, List.append_nil, List.nil_append, List.cons_append, Nat.reduceAdd, Nat.reduceLeDiff, Nat.reduceEqDiff, Nat.zero_add, reduceIte, Bool.false_eq_true, Bool.not_true, Bool.not_false, and_self, sizeM_eq, b1, b2, isi_bool (noobj_bl b), isBoolP, ne_bl_self]) _ S ⟨_, _, rfl, rfl⟩
  exact ⟨s4, s8, e⟩
/-! ### what is no table -/
structure Odd (y : PV) : Prop where
  cl : Clean y
  no : isTab y = false
  sm : Sm y 1000 3
  pl : Pln y
def Fin (y t : PV) (S : Store) : Res PV := (m__law_told [y, t] S).bind fun x S1 => (gRepr [y] S1).bind fun r S2 => gEqD false x (.tup [.str "wrong", r, .bl true]) S2
theorem fin_ok {y : PV} (h : Odd y) (t : PV) (S : Store) : Fin y t S = .ok (.bl true) S := by
  obtain ⟨s, hs⟩ := sm_repr h.sm (by decide) (by decide) S
  have ok := repr_pln h.pl hs
  unfold Fin
  rw [told_wrong h.cl h.no hs, ev_bind, hs, ev_bind]
  refine selfy_eq ⟨.tuple [.str "wrong", .str s, .bool true], rfl, ?_⟩ (fun a e => by cases e) S
  show (PyData.canLayAll0 [.str "wrong", .str s, .bool true] && _) = true
  simp only [PyData.canLayAll0, PyData.canLay0, ok, sok_lit, Bool.and_self, Bool.true_and]
  rfl
def odds : List PV := [PV.non, .bl true, .int (-1), .str "0", .tup [], .lst [], .int 7, .str "", .tup [.int 0], .bl false, .int (10 ^ (20 : Int).toNat)]
theorem sm_by {y : PV} (d : PyData) (h : toD y = some d) (h2 : (PyData.showable d && (d.leavesShort 30 && (decide (d.weight ≤ 1000) && decide (d.depth ≤ 3)))) = true) : Sm y 1000 3 := by
  simp only [Bool.and_eq_true, decide_eq_true_eq] at h2
  exact ⟨d, h, h2.1, h2.2.1, h2.2.2.1, h2.2.2.2⟩
theorem pln_by {y : PV} (d : PyData) (h : toD y = some d) (h2 : plainD d = true) : Pln y := fun e he => by
  rw [h] at he
  cases he
  exact h2
theorem odds_ok : ∀ y ∈ odds, Odd y :=
  tb_cons ⟨rfl, rfl, sm_by .none rfl (by decide +kernel), pln_by .none rfl (by decide +kernel)⟩
  (tb_cons ⟨rfl, rfl, sm_by (.bool true) rfl (by decide +kernel), pln_by (.bool true) rfl (by decide +kernel)⟩
  (tb_cons ⟨rfl, rfl, sm_by (.int (-1)) rfl (by decide +kernel), pln_by (.int (-1)) rfl (by decide +kernel)⟩
  (tb_cons ⟨rfl, rfl, sm_by (.str "0") rfl (by decide +kernel), pln_by (.str "0") rfl (by decide +kernel)⟩
  (tb_cons ⟨rfl, rfl, sm_by (.tuple []) rfl (by decide +kernel), pln_by (.tuple []) rfl (by decide +kernel)⟩
  (tb_cons ⟨rfl, rfl, sm_by (.list []) rfl (by decide +kernel), pln_by (.list []) rfl (by decide +kernel)⟩
  (tb_cons ⟨rfl, rfl, sm_by (.int 7) rfl (by decide +kernel), pln_by (.int 7) rfl (by decide +kernel)⟩
  (tb_cons ⟨rfl, rfl, sm_by (.str "") rfl (by decide +kernel), pln_by (.str "") rfl (by decide +kernel)⟩
  (tb_cons ⟨rfl, rfl, sm_by (.tuple [.int 0]) rfl (by decide +kernel), pln_by (.tuple [.int 0]) rfl (by decide +kernel)⟩
  (tb_cons ⟨rfl, rfl, sm_by (.bool false) rfl (by decide +kernel), pln_by (.bool false) rfl (by decide +kernel)⟩
  (tb_cons ⟨rfl, rfl, sm_by (.int (10 ^ (20 : Int).toNat)) rfl (by decide +kernel), pln_by (.int (10 ^ (20 : Int).toNat)) rfl (by decide +kernel)⟩ tb_nil))))))))))
theorem odd_ok {S R : Store} (h : Hand S R) : ∃ v S', m__law_odd [.obj 0] S = .ok v S' ∧ Hand S' R ∧ v ∈ odds := by
  obtain ⟨i, S', e, h', i0, i1⟩ := take_ok (many := 11) h (by decide)
  obtain ⟨y, ey, hy⟩ := at_mem (xs := odds) i0 i1
  refine ⟨y, S', ?_, h', hy⟩
  unfold odds at ey
  show (b__law_odd [.val (.obj 0)] S).bind toRet = _
  unfold b__law_odd
  rw [d_take]
  have c20 : cpow 10 20 = true := by decide
  simp only [ev_bind, ev_nox, ev_seq, ev_set, ev_setOwn, ev_share, ev_drop, ev_ret, ev_retOwn, ev_skip, ev_brk, ev_cnt, ev_ifS, ev_frzS, ev_append, ev_setIx, ev_for, ev_lc, ev_seqOf, ev_range, ev_var, ev_c, ev_op, ev_un, ev_args, ev_nil, ev_cons, ev_frz, ev_b, ev_and, ev_or, ev_not, ev_andV, ev_orV, ev_notV, ev_if, ev_chain, ev_isi, ev_ixOwn, ev_lenOwn, ev_call, ev_callK, ev_sl, ev_part, ev_true, ev_nm, ev_toB, frz, frzAt, toSeq_tup, toSeq_lst, toSeq_cl, toRet, mWipe, kbG, Mir.gTup, Mir.gLst, List.getElem?_cons_zero, List.getElem?_cons_succ, List.set_cons_zero, List.set_cons_succ, List.length_cons, List.length_nil, List.append_nil, List.nil_append, List.cons_append, Nat.reduceAdd, Nat.reduceLeDiff, Nat.reduceEqDiff, Nat.zero_add, reduceIte, Bool.false_eq_true, Bool.not_true, Bool.not_false, and_self, sizeM_eq, gAddA, gAdd, gMulA, gMul, Mir.gSub, gFdiv, gMod, gLt, gLe, gGt, gGe, gLen, gInt, gAbs, gNeg, gPow, c20, e, Nat.zero_le, gIx, ey]
theorem cut_sub {xs : List PV} {i j : Option Int} {x : PV} (h : x ∈ cutP xs i j) : x ∈ xs := List.mem_of_mem_drop (List.mem_of_mem_take h)
theorem five_ok {r : List Int} (T : Row8 r) {o : PV} (ho : Odd o) : ∀ y ∈ [.tup (cutP (r.map PV.int) none (some 4)), .lst (r.map PV.int), .tup (r.map PV.int ++ [.int 0]), .tup (cutP (r.map PV.int) none (some 7) ++ [.bl false]), o], Odd y := by
  have bit : ∀ x ∈ r.map PV.int, ∃ b : Int, x = .int b ∧ (b = 0 ∨ b = 1) := fun x hx => by
    obtain ⟨b, hb, rfl⟩ := List.mem_map.mp hx
    exact ⟨b, rfl, T.bits b hb⟩
  have len : (r.map PV.int).length = 8 := by rw [List.length_map]; exact T.len
  have cb : ∀ xs : List PV, (∀ x ∈ xs, x = .bl false ∨ ∃ b : Int, x = .int b ∧ (b = 0 ∨ b = 1)) → xs.length ≤ 9 → (∀ x ∈ xs, Clean x) ∧ (∀ x ∈ xs, Sm x 1 0) ∧ (∀ x ∈ xs, Pln x) := fun xs h _ => by
    refine ⟨fun x hx => ?_, fun x hx => ?_, fun x hx => ?_⟩ <;> rcases h x hx with rfl | ⟨b, rfl, hb⟩
    · rfl
    · rfl
    · exact (sm_bl false).mono (by decide) (Nat.le_refl _)
    · exact sm_bit hb
    · exact pln_bl _
    · exact pln_int _
  have mk : ∀ xs : List PV, (∀ x ∈ xs, x = .bl false ∨ ∃ b : Int, x = .int b ∧ (b = 0 ∨ b = 1)) → xs.length ≤ 9 → isTab (.tup xs) = false → Odd (.tup xs) := fun xs h hl hn => by
    obtain ⟨a, b, c⟩ := cb xs h hl
    exact ⟨clean_tup a, hn, (sm_tup b).mono (by omega) (by omega), pln_tup c⟩
  have c4 := cutP_len (r.map PV.int) none (some 4)
  have c7 := cutP_len (r.map PV.int) none (some 7)
  refine tb_cons ?_ (tb_cons ?_ (tb_cons ?_ (tb_cons ?_ (tb_cons ho tb_nil))))
  · refine mk _ (fun x hx => .inr (bit x (cut_sub hx))) (by omega) ?_
    have : (cutP (r.map PV.int) none (some 4)).length ≤ 4 := by
      unfold cutP
      rw [List.length_take]
      have : HT.sIx (r.map PV.int).length (r.map PV.int).length (some 4) = 4 := by rw [len]; rfl
      rw [this]
      omega
    simp only [isTab, show decide ((cutP (r.map PV.int) none (some 4)).length = 8) = false from decide_eq_false (by omega), Bool.false_and]
  · obtain ⟨a, b, c⟩ := cb (r.map PV.int) (fun x hx => .inr (bit x hx)) (by omega)
    exact ⟨clean_lst a, rfl, (sm_lst b).mono (by omega) (by omega), pln_lst c⟩
  · refine mk _ (fun x hx => .inr ?_) (by rw [List.length_append, len]; decide) ?_
    · rcases List.mem_append.mp hx with hx | hx
      · exact bit x hx
      · rw [List.mem_singleton.mp hx]; exact ⟨0, rfl, .inl rfl⟩
    · have : (r.map PV.int ++ [PV.int 0]).length = 9 := by rw [List.length_append, len]; rfl
      simp only [isTab, show decide ((r.map PV.int ++ [PV.int 0]).length = 8) = false from decide_eq_false (by omega), Bool.false_and]
  · refine mk _ (fun x hx => ?_) (by rw [List.length_append]; simp only [List.length_cons, List.length_nil]; omega) ?_
    · rcases List.mem_append.mp hx with hx | hx
      · exact .inr (bit x (cut_sub hx))
      · rw [List.mem_singleton.mp hx]; exact .inl rfl
    · simp only [isTab, List.all_append, List.all_cons, List.all_nil, isBitP, Bool.false_and, Bool.and_false]
def B_end : Rho → Store → Res Out :=
    (mSeq (mSet 5 (mOp gIx (mFrz (mArgs gLst (mCons (mSl gSl (mVar 3) (fun _ S => .ok none S) (mPart (mC (.int 4)))) (mCons (mFrz (mArgs gList (mCons (mVar 3) mNil))) (mCons (mOp gAddA (mVar 3) (mArgs gTup (mCons (mC (.int 0)) mNil))) (mCons (mOp gAddA (mSl gSl (mVar 3) (fun _ S => .ok none S) (mPart (mC (.int 7)))) (mArgs gTup (mCons (mC (.bl false)) mNil))) (mCons (mCall 1 m__law_odd [] (mCons (mVar 1) mNil)) mNil))))))) (mCall 2 m__law_take [] (mCons (mVar 1) (mCons (mC (.int 5)) mNil)))))
    (mRet (mOp (gEqD false) (mCall 2 m__law_told [] (mCons (mVar 5) (mCons (mOp gIx (mFrz (mArgs gLst (mCons (mC (.int 0)) (mCons (mC .non) mNil)))) (mCall 2 m__law_take [] (mCons (mVar 1) (mCons (mC (.int 2)) mNil)))) mNil))) (mArgs gTup (mCons (mC (.str "wrong")) (mCons (mArgs gRepr (mCons (mVar 5) mNil)) (mCons (mC (.bl true)) mNil)))))))
theorem end_ok {r : List Int} (T : Row8 r) {S : Store} (h : Hand S []) (x : PV) (s2 s4 s6 s7 s8 : Slot) : ∃ S', B_end (midL x s2 (.val (rowP r)) s4 .none s6 s7 s8) S = .ok (.rt (.bl true)) S' := by
  obtain ⟨o, S1, e1, g1, ho⟩ := odd_ok h
  obtain ⟨c, S2, e2, g2, c0, c1⟩ := take_ok (many := 5) g1 (by decide)
  obtain ⟨y, ey, hy⟩ := at_mem (xs := [.tup (cutP (r.map PV.int) none (some 4)), .lst (r.map PV.int), .tup (r.map PV.int ++ [.int 0]), .tup (cutP (r.map PV.int) none (some 7) ++ [.bl false]), o]) c0 c1
  have oy := five_ok T (odds_ok o ho) y hy
  obtain ⟨c', S3, e3, g3, c0', c1'⟩ := take_ok (many := 2) g2 (by decide)
  obtain ⟨t, et, ht⟩ := at_mem (xs := [PV.int 0, PV.non]) c0' c1'
  refine ⟨S3, ?_⟩
  have fy := fin_ok oy t S3
  have c7 := cutP_len (r.map PV.int) none (some 7)
  rw [List.length_map, T.len] at c7
  unfold Fin at fy
  unfold B_end midL
  rw [d_take]
  simp only [ev_bind, ev_nox, ev_seq, ev_set, ev_setOwn, ev_share, ev_drop, ev_ret, ev_retOwn, ev_skip, ev_brk, ev_cnt, ev_ifS, ev_frzS, ev_append, ev_setIx, ev_for, ev_lc, ev_seqOf, ev_range, ev_var, ev_c, ev_op, ev_un, ev_args, ev_nil, ev_cons, ev_frz, ev_b, ev_and, ev_or, ev_not, ev_andV, ev_orV, ev_notV, ev_if, ev_chain, ev_isi, ev_ixOwn, ev_lenOwn, ev_call, ev_callK, ev_sl, ev_part, ev_true, ev_nm, ev_toB, frz, frzAt, toSeq_tup, toSeq_lst, toSeq_cl, toRet, mWipe, kbG, Mir.gTup, Mir.gLst, List.getElem?_cons_zero, List.getElem?_cons_succ, List.set_cons_zero, List.set_cons_succ, List.length_cons, List.length_nil, List.append_nil, List.nil_append, List.cons_append, Nat.reduceAdd, Nat.reduceLeDiff, Nat.reduceEqDiff, Nat.zero_add, reduceIte, Bool.false_eq_true, Bool.not_true, Bool.not_false, and_self, sizeM_eq, gAddA, gAdd, gMulA, gMul, Mir.gSub, gFdiv, gMod, gLt, gLe, gGt, gGe, gLen, gInt, gAbs, gNeg, gSl, gList, rowP, List.length_map, T.len, show (cutP (r.map PV.int) none (some 7)).length + 1 ≤ 100000 by omega, Nat.zero_le, e1, e2, e3, gIx, ey, et]
  generalize m__law_told [y, t] S3 = R at fy
  cases R with
  | bad => cases fy
  | exc c fs S' => cases fy
  | ok a S' =>
    simp only [ev_bind] at fy ⊢
    generalize gRepr [y] S' = R2 at fy
    cases R2 with
    | bad => cases fy
    | exc c fs S' => cases fy
    | ok a S' =>
      simp only [ev_bind] at fy ⊢
      simp only [ev_bind, ev_nox, ev_seq, ev_set, ev_setOwn, ev_share, ev_drop, ev_ret, ev_retOwn, ev_skip, ev_brk, ev_cnt, ev_ifS, ev_frzS, ev_append, ev_setIx, ev_for, ev_lc, ev_seqOf, ev_range, ev_var, ev_c, ev_op, ev_un, ev_args, ev_nil, ev_cons, ev_frz, ev_b, ev_and, ev_or, ev_not, ev_andV, ev_orV, ev_notV, ev_if, ev_chain, ev_isi, ev_ixOwn, ev_lenOwn, ev_call, ev_callK, ev_sl, ev_part, ev_true, ev_nm, ev_toB, frz, frzAt, toSeq_tup, toSeq_lst, toSeq_cl, toRet, mWipe, kbG, Mir.gTup, Mir.gLst, List.getElem?_cons_zero, List.getElem?_cons_succ, List.set_cons_zero, List.set_cons_succ, List.length_cons, List.length_nil, List.append_nil, List.nil_append, List.cons_append, Nat.reduceAdd, Nat.reduceLeDiff, Nat.reduceEqDiff, Nat.zero_add, reduceIte, Bool.false_eq_true, Bool.not_true, Bool.not_false, and_self, sizeM_eq, fy]
theorem law_true (ns : List Int) (hl : ns.length ≤ 63) : ∃ S, m_law [.cl (ns.map PV.int)] [] = .ok (.bl true) S := by
  obtain ⟨ds, d1, d2, e0⟩ := draws_ok (ns := ns) (n := 300) (by decide) (by omega) []
  have g0 : Hand [.lst [.lst (ds.map PV.int), .int 0]] [] := ⟨ds, 0, rfl, by decide, d2⟩
  obtain ⟨v, S1, e1, g1, v0, v1⟩ := take_ok (many := 256) g0 (by decide)
  have lc := lc_map (g := gNm 9) (t := mTrue) (a := mOp gMod (mArgs gInt (mCons (mOp gFdiv (mVar 2) (mOp gShl (mC (.int 1)) (mVar 9))) mNil)) (mC (.int 2))) (ρ := [.val (.cl (ns.map PV.int)), .val (.obj 0), .val (.int v), .none, .none, .none, .none, .none, .none, .none]) (xs := (List.range 8).map fun (j : Nat) => PV.int (j : Int)) (S := S1)
    (fun y => match y with | .int j => .int (v / (1 * 2 ^ j.toNat) % 2) | y => y) fun y hy => by
      obtain ⟨j, hj, rfl⟩ := List.mem_map.mp hy
      have hj : j < 8 := by simpa using hj
      have : j = 0 ∨ j = 1 ∨ j = 2 ∨ j = 3 ∨ j = 4 ∨ j = 5 ∨ j = 6 ∨ j = 7 := by omega
      refine ⟨_, rfl, rfl, ?_⟩
      rcases this with rfl | rfl | rfl | rfl | rfl | rfl | rfl | rfl <;> rfl
  have hb : Bits ((List.range 8).map fun j => v / (1 * 2 ^ j) % 2) := fun b hb => by
    obtain ⟨j, _, rfl⟩ := List.mem_map.mp hb
    have h1 := Int.emod_nonneg (v / (1 * 2 ^ j)) (show (2 : Int) ≠ 0 by decide)
    have h2 := Int.emod_lt_of_pos (v / (1 * 2 ^ j)) (show (0 : Int) < 2 by decide)
    omega
  have er : PV.tup (List.map ((fun y => match y with | .int j => PV.int (v / (1 * 2 ^ j.toNat) % 2) | y => y) ∘ fun (j : Nat) => PV.int (j : Int)) (List.range 8)) = rowP ((List.range 8).map fun j => v / (1 * 2 ^ j) % 2) := by
    unfold rowP
    rw [List.map_map]
    rfl
  obtain ⟨r, s6, s7, S2, e2, g2, T⟩ := if_ok (r := (List.range 8).map fun j => v / (1 * 2 ^ j) % 2) ⟨by simp, hb⟩ g1 (.cl (ns.map PV.int)) (.val (.int v))
  obtain ⟨S3, e3, g3⟩ := termstold_ok T g2
  obtain ⟨cs, S4, e4, g4, hc⟩ := claims_ok T g3
  obtain ⟨s4, s8, e5⟩ := loop_cl T hc (.cl (ns.map PV.int)) (.val (.int v)) s6 s7 S4
  obtain ⟨S5, e6⟩ := end_ok T g4 (.cl (ns.map PV.int)) (.val (.int v)) s4 s6 s7 s8
  refine ⟨S5, ?_⟩
  show (b_law [.val (.cl (ns.map PV.int)), .none, .none, .none, .none, .none, .none, .none, .none, .none] []).bind toRet = _
  have e0' : m__law_draws [.cl (ns.map PV.int), .int 300] [] = .ok (.lst (ds.map PV.int)) [] := e0
  have r8 : range62 8 = true := by decide
  unfold B_if midL at e2
  unfold B_cl midL at e5
  unfold B_end midL at e6
  unfold b_law
  rw [d_take] at e2 e6 ⊢
  simp only [ev_bind, ev_nox, ev_seq, ev_set, ev_setOwn, ev_share, ev_drop, ev_ret, ev_retOwn, ev_skip, ev_brk, ev_cnt, ev_ifS, ev_frzS, ev_append, ev_setIx, ev_for, ev_lc, ev_seqOf, ev_range, ev_var, ev_c, ev_op, ev_un, ev_args, ev_nil, ev_cons, ev_frz, ev_b, ev_and, ev_or, ev_not, ev_andV, ev_orV, ev_notV, ev_if, ev_chain, ev_isi, ev_ixOwn, ev_lenOwn, ev_call, ev_callK, ev_sl, ev_part, ev_true, ev_nm, ev_toB, frz, frzAt, toSeq_tup, toSeq_lst, toSeq_cl, toRet, mWipe, kbG, Mir.gTup, Mir.gLst, List.getElem?_cons_zero, List.getElem?_cons_succ, List.set_cons_zero, List.set_cons_succ, List.length_cons, List.length_nil, List.append_nil, List.nil_append, List.cons_append, Nat.reduceAdd, Nat.reduceLeDiff, Nat.reduceEqDiff, Nat.zero_add, reduceIte, Bool.false_eq_true, Bool.not_true, Bool.not_false, and_self, sizeM_eq, ev_bindExc, ev_asg, ev_unTup, ev_unLst, ev_tupM, ev_gsCons, ev_gsNil, ev_raise, ev_tryL, ev_tryOk, ev_tryExc, ev_kin, ev_kget, ev_index, eqD_int, neD_int, gAddA, gAdd, gMulA, gMul, Mir.gSub, gFdiv, gMod, gLt, gLe, gGt, gGe, gLen, gInt, gAbs, gNeg, e0', e1, gRange1, r8, show (8 : Int).toNat = 8 from rfl, List.length_map, List.length_range, lc, gTuple, List.map_map, er]
  simp only [ev_bind, ev_nox, ev_seq, ev_set, ev_setOwn, ev_share, ev_drop, ev_ret, ev_retOwn, ev_skip, ev_brk, ev_cnt, ev_ifS, ev_frzS, ev_append, ev_setIx, ev_for, ev_lc, ev_seqOf, ev_range, ev_var, ev_c, ev_op, ev_un, ev_args, ev_nil, ev_cons, ev_frz, ev_b, ev_and, ev_or, ev_not, ev_andV, ev_orV, ev_notV, ev_if, ev_chain, ev_isi, ev_ixOwn, ev_lenOwn, ev_call, ev_callK, ev_sl, ev_part, ev_true, ev_nm, ev_toB, frz, frzAt, toSeq_tup, toSeq_lst, toSeq_cl, toRet, mWipe, kbG, Mir.gTup, Mir.gLst, List.getElem?_cons_zero, List.getElem?_cons_succ, List.set_cons_zero, List.set_cons_succ, List.length_cons, List.length_nil, List.append_nil, List.nil_append, List.cons_append, Nat.reduceAdd, Nat.reduceLeDiff, Nat.reduceEqDiff, Nat.zero_add, reduceIte, Bool.false_eq_true, Bool.not_true, Bool.not_false, and_self, sizeM_eq, ev_bindExc, ev_asg, ev_unTup, ev_unLst, ev_tupM, ev_gsCons, ev_gsNil, ev_raise, ev_tryL, ev_tryOk, ev_tryExc, ev_kin, ev_kget, ev_index, eqD_int, neD_int, gAddA, gAdd, gMulA, gMul, Mir.gSub, gFdiv, gMod, gLt, gLe, gGt, gGe, gLen, gInt, gAbs, gNeg] at e2
  simp only [e2, ev_bind, ev_nox, ev_seq, ev_set, ev_setOwn, ev_share, ev_drop, ev_ret, ev_retOwn, ev_skip, ev_brk, ev_cnt, ev_ifS, ev_frzS, ev_append, ev_setIx, ev_for, ev_lc, ev_seqOf, ev_range, ev_var, ev_c, ev_op, ev_un, ev_args, ev_nil, ev_cons, ev_frz, ev_b, ev_and, ev_or, ev_not, ev_andV, ev_orV, ev_notV, ev_if, ev_chain, ev_isi, ev_ixOwn, ev_lenOwn, ev_call, ev_callK, ev_sl, ev_part, ev_true, ev_nm, ev_toB, frz, frzAt, toSeq_tup, toSeq_lst, toSeq_cl, toRet, mWipe, kbG, Mir.gTup, Mir.gLst, List.getElem?_cons_zero, List.getElem?_cons_succ, List.set_cons_zero, List.set_cons_succ, List.length_cons, List.length_nil, List.append_nil, List.nil_append, List.cons_append, Nat.reduceAdd, Nat.reduceLeDiff, Nat.reduceEqDiff, Nat.zero_add, reduceIte, Bool.false_eq_true, Bool.not_true, Bool.not_false, and_self, sizeM_eq, ev_bindExc, ev_asg, ev_unTup, ev_unLst, ev_tupM, ev_gsCons, ev_gsNil, ev_raise, ev_tryL, ev_tryOk, ev_tryExc, ev_kin, ev_kget, ev_index, eqD_int, neD_int, e3, e4, e5]
  simp only [ev_bind, ev_nox, ev_seq, ev_set, ev_setOwn, ev_share, ev_drop, ev_ret, ev_retOwn, ev_skip, ev_brk, ev_cnt, ev_ifS, ev_frzS, ev_append, ev_setIx, ev_for, ev_lc, ev_seqOf, ev_range, ev_var, ev_c, ev_op, ev_un, ev_args, ev_nil, ev_cons, ev_frz, ev_b, ev_and, ev_or, ev_not, ev_andV, ev_orV, ev_notV, ev_if, ev_chain, ev_isi, ev_ixOwn, ev_lenOwn, ev_call, ev_callK, ev_sl, ev_part, ev_true, ev_nm, ev_toB, frz, frzAt, toSeq_tup, toSeq_lst, toSeq_cl, toRet, mWipe, kbG, Mir.gTup, Mir.gLst, List.getElem?_cons_zero, List.getElem?_cons_succ, List.set_cons_zero, List.set_cons_succ, List.length_cons, List.length_nil, List.append_nil, List.nil_append, List.cons_append, Nat.reduceAdd, Nat.reduceLeDiff, Nat.reduceEqDiff, Nat.zero_add, reduceIte, Bool.false_eq_true, Bool.not_true, Bool.not_false, and_self, sizeM_eq, ev_bindExc, ev_asg, ev_unTup, ev_unLst, ev_tupM, ev_gsCons, ev_gsNil, ev_raise, ev_tryL, ev_tryOk, ev_tryExc, ev_kin, ev_kget, ev_index, eqD_int, neD_int, gAddA, gAdd, gMulA, gMul, Mir.gSub, gFdiv, gMod, gLt, gLe, gGt, gGe, gLen, gInt, gAbs, gNeg] at e6
  simp only [e6, ev_bind, ev_nox, ev_seq, ev_set, ev_setOwn, ev_share, ev_drop, ev_ret, ev_retOwn, ev_skip, ev_brk, ev_cnt, ev_ifS, ev_frzS, ev_append, ev_setIx, ev_for, ev_lc, ev_seqOf, ev_range, ev_var, ev_c, ev_op, ev_un, ev_args, ev_nil, ev_cons, ev_frz, ev_b, ev_and, ev_or, ev_not, ev_andV, ev_orV, ev_notV, ev_if, ev_chain, ev_isi, ev_ixOwn, ev_lenOwn, ev_call, ev_callK, ev_sl, ev_part, ev_true, ev_nm, ev_toB, frz, frzAt, toSeq_tup, toSeq_lst, toSeq_cl, toRet, mWipe, kbG, Mir.gTup, Mir.gLst, List.getElem?_cons_zero, List.getElem?_cons_succ, List.set_cons_zero, List.set_cons_succ, List.length_cons, List.length_nil, List.append_nil, List.nil_append, List.cons_append, Nat.reduceAdd, Nat.reduceLeDiff, Nat.reduceEqDiff, Nat.zero_add, reduceIte, Bool.false_eq_true, Bool.not_true, Bool.not_false, and_self, sizeM_eq]
end K07
set_option maxHeartbeats 0
namespace K07
open PySem PySem.Spec PyProof.Rows L2 Mir
/-! ### the head -/
def dd_is_bit : He.DefD := ⟨("is_bit", none), "is_bit", "is_bit", defArgs s_is_bit, defBody s_is_bit, defScope s_is_bit, [], []⟩
def dd_is_table : He.DefD := ⟨("is_table", none), "is_table", "is_table", defArgs s_is_table, defBody s_is_table, defScope s_is_table, [], []⟩
def dd_table_of : He.DefD := ⟨("table_of", none), "table_of", "table_of", defArgs s_table_of, defBody s_table_of, defScope s_table_of, [], []⟩
def dd_widened : He.DefD := ⟨("widened", none), "widened", "widened", defArgs s_widened, defBody s_widened, defScope s_widened, [], []⟩
def dd__is_term : He.DefD := ⟨("_is_term", none), "_is_term", "_is_term", defArgs s__is_term, defBody s__is_term, defScope s__is_term, [], []⟩
def dd_put_in : He.DefD := ⟨("put_in", none), "put_in", "put_in", defArgs s_put_in, defBody s_put_in, defScope s_put_in, [], []⟩
def dd__told : He.DefD := ⟨("_told", none), "_told", "_told", defArgs s__told, defBody s__told, defScope s__told, [], []⟩
def dd_term_table : He.DefD := ⟨("term_table", none), "term_table", "term_table", defArgs s_term_table, defBody s_term_table, defScope s_term_table, [], []⟩
def dd_turned : He.DefD := ⟨("turned", none), "turned", "turned", defArgs s_turned, defBody s_turned, defScope s_turned, [], []⟩
def dd_is_plain : He.DefD := ⟨("is_plain", none), "is_plain", "is_plain", defArgs s_is_plain, defBody s_is_plain, defScope s_is_plain, [], []⟩
def dd__applied : He.DefD := ⟨("_applied", none), "_applied", "_applied", defArgs s__applied, defBody s__applied, defScope s__applied, [], []⟩
def dd__readings : He.DefD := ⟨("_readings", none), "_readings", "_readings", defArgs s__readings, defBody s__readings, defScope s__readings, [], []⟩
def dd_term_of : He.DefD := ⟨("term_of", none), "term_of", "term_of", defArgs s_term_of, defBody s_term_of, defScope s_term_of, [], []⟩
def dd_term_holds : He.DefD := ⟨("term_holds", none), "term_holds", "term_holds", defArgs s_term_holds, defBody s_term_holds, defScope s_term_holds, [], []⟩
def dd__law_draws : He.DefD := ⟨("_law_draws", none), "_law_draws", "_law_draws", defArgs s__law_draws, defBody s__law_draws, defScope s__law_draws, [], []⟩
def dd__law_take : He.DefD := ⟨("_law_take", none), "_law_take", "_law_take", defArgs s__law_take, defBody s__law_take, defScope s__law_take, [], []⟩
def dd__law_every : He.DefD := ⟨("_law_every", none), "_law_every", "_law_every", defArgs s__law_every, defBody s__law_every, defScope s__law_every, [], []⟩
def dd__law_place : He.DefD := ⟨("_law_place", none), "_law_place", "_law_place", defArgs s__law_place, defBody s__law_place, defScope s__law_place, [], []⟩
def dd__law_six : He.DefD := ⟨("_law_six", none), "_law_six", "_law_six", defArgs s__law_six, defBody s__law_six, defScope s__law_six, [], []⟩
def dd__law_places_of : He.DefD := ⟨("_law_places_of", none), "_law_places_of", "_law_places_of", defArgs s__law_places_of, defBody s__law_places_of, defScope s__law_places_of, [], []⟩
def dd__law_term_table : He.DefD := ⟨("_law_term_table", none), "_law_term_table", "_law_term_table", defArgs s__law_term_table, defBody s__law_term_table, defScope s__law_term_table, [], []⟩
def dd__law_is_term : He.DefD := ⟨("_law_is_term", none), "_law_is_term", "_law_is_term", defArgs s__law_is_term, defBody s__law_is_term, defScope s__law_is_term, [], []⟩
def dd__law_is_plain : He.DefD := ⟨("_law_is_plain", none), "_law_is_plain", "_law_is_plain", defArgs s__law_is_plain, defBody s__law_is_plain, defScope s__law_is_plain, [], []⟩
def dd__law_widened : He.DefD := ⟨("_law_widened", none), "_law_widened", "_law_widened", defArgs s__law_widened, defBody s__law_widened, defScope s__law_widened, [], []⟩
def dd__law_claim_holds : He.DefD := ⟨("_law_claim_holds", none), "_law_claim_holds", "_law_claim_holds", defArgs s__law_claim_holds, defBody s__law_claim_holds, defScope s__law_claim_holds, [], []⟩
def dd__law_drawn_term : He.DefD := ⟨("_law_drawn_term", none), "_law_drawn_term", "_law_drawn_term", defArgs s__law_drawn_term, defBody s__law_drawn_term, defScope s__law_drawn_term, [], []⟩
def dd__law_odd : He.DefD := ⟨("_law_odd", none), "_law_odd", "_law_odd", defArgs s__law_odd, defBody s__law_odd, defScope s__law_odd, [], []⟩
def dd__law_told : He.DefD := ⟨("_law_told", none), "_law_told", "_law_told", defArgs s__law_told, defBody s__law_told, defScope s__law_told, [], []⟩
def dd__law_deep : He.DefD := ⟨("_law_deep", none), "_law_deep", "_law_deep", defArgs s__law_deep, defBody s__law_deep, defScope s__law_deep, [], []⟩
def dd__law_chain : He.DefD := ⟨("_law_chain", none), "_law_chain", "_law_chain", defArgs s__law_chain, defBody s__law_chain, defScope s__law_chain, [], []⟩
def dd__law_size : He.DefD := ⟨("_law_size", none), "_law_size", "_law_size", defArgs s__law_size, defBody s__law_size, defScope s__law_size, [], []⟩
def dd__law_bent : He.DefD := ⟨("_law_bent", none), "_law_bent", "_law_bent", defArgs s__law_bent, defBody s__law_bent, defScope s__law_bent, [], []⟩
def dd__law_terms_told : He.DefD := ⟨("_law_terms_told", none), "_law_terms_told", "_law_terms_told", defArgs s__law_terms_told, defBody s__law_terms_told, defScope s__law_terms_told, [], []⟩
def dd__law_claims : He.DefD := ⟨("_law_claims", none), "_law_claims", "_law_claims", defArgs s__law_claims, defBody s__law_claims, defScope s__law_claims, [], []⟩
def dd_law : He.DefD := ⟨("law", none), "law", "law", defArgs s_law, defBody s_law, defScope s_law, [], []⟩
def ddi_InvalidTable : He.DefD := ⟨("InvalidTable", some "__init__"), "__init__", "InvalidTable.__init__", defArgs si_InvalidTable, defBody si_InvalidTable, defScope si_InvalidTable, [], []⟩
def ddi_Undefined : He.DefD := ⟨("Undefined", some "__init__"), "__init__", "Undefined.__init__", defArgs si_Undefined, defBody si_Undefined, defScope si_Undefined, [], []⟩
def fn : List He.DefD := [dd_is_bit, dd_is_table, dd_table_of, dd_widened, dd__is_term, dd_put_in, dd__told, dd_term_table, dd_turned, dd_is_plain, dd__applied, dd__readings, dd_term_of, dd_term_holds, dd__law_draws, dd__law_take, dd__law_every, dd__law_place, dd__law_six, dd__law_places_of, dd__law_term_table, dd__law_is_term, dd__law_is_plain, dd__law_widened, dd__law_claim_holds, dd__law_drawn_term, dd__law_odd, dd__law_told, dd__law_deep, dd__law_chain, dd__law_size, dd__law_bent, dd__law_terms_told, dd__law_claims, dd_law, ddi_InvalidTable, ddi_Undefined]
def fa : List He.Fa := ([.glo "is_bit", .glo "is_table", .glo "table_of", .glo "widened", .glo "_is_term", .glo "put_in", .glo "_told", .glo "term_table", .glo "turned", .glo "is_plain", .glo "_applied", .glo "_readings", .glo "term_of", .glo "term_holds", .glo "_law_draws"] : List He.Fa) ++ ([.glo "_law_take", .glo "_law_every", .glo "_law_place", .glo "_law_six", .glo "_law_places_of", .glo "_law_term_table", .glo "_law_is_term", .glo "_law_is_plain", .glo "_law_widened", .glo "_law_claim_holds", .glo "_law_drawn_term", .glo "_law_odd", .glo "_law_told", .glo "_law_deep", .glo "_law_chain"] : List He.Fa) ++ ([.glo "_law_size", .glo "_law_bent", .glo "_law_terms_told", .glo "_law_claims", .glo "law", .free "abs", .free "all", .free "bool", .free "int", .free "isinstance", .free "len", .free "list", .free "range", .free "repr", .free "str"] : List He.Fa) ++ ([.free "sum", .free "tuple", .glo "CellError", .exm "InvalidTable" "InvalidTable" true, .exm "InvalidTable" "Undefined" false, .exm "Undefined" "InvalidTable" false, .exm "Undefined" "Undefined" true] : List He.Fa)
def ts : List He.Tab := [(fun K => He.ga K "TABLES", ["all no", "all yes", "and", "or", "majority", "odd one"])]
def ex (K : PySem.W.Frag) : Bool := [cstB K "DEEPEST" c_DEEPEST, cstB K "PLACES" c_PLACES, cstB K "SIZES" c_SIZES, xclsB K "InvalidTable" ["value"], xclsB K "Undefined" ["what"], decide (PySem.W.kitOne K (.ref (He.ga K "InvalidTable")) (.ref (He.ga K "CellError")) = some true), decide (PySem.W.kitOne K (.ref (He.ga K "Undefined")) (.ref (He.ga K "CellError")) = some true), dicB K "TABLES" c_TABLES].all id
abbrev R : PySem.W.OpenRow := PySem.W.OpenLaw.row PySem.Challenge.rw_cellrealm_k07_terms_right_and_spoilt
abbrev qv : Program := PySem.W.view R.prog [45]
def loose : List Str := (["is_bit", "is_table", "table_of", "widened", "_is_term", "put_in", "_told", "term_table", "turned", "is_plain", "_applied", "_readings", "term_of", "term_holds", "_law_draws"] : List Str) ++ (["_law_take", "_law_every", "_law_place", "_law_six", "_law_places_of", "_law_term_table", "_law_is_term", "_law_is_plain", "_law_widened", "_law_claim_holds", "_law_drawn_term", "_law_odd", "_law_told", "_law_deep", "_law_chain"] : List Str) ++ (["_law_size", "_law_bent", "_law_terms_told", "_law_claims", "CellError", "InvalidTable", "Undefined", "SIZES", "TABLES", "PLACES", "DEEPEST"] : List Str)
theorem run (w : World) : HandSHeadRun.RunEq R qv (hookN 4 fa fn ts ex) (obN 4 fa fn ts ex) 20000 loose w := by
  rw [← setFT_eq w "special-get-raises"]
  generalize w.params.followText "special-get-raises" = b
  cases b
  · intro os
    kernel_rfl
  · intro os
    kernel_rfl
theorem tx_of {w : World} {K : PySem.W.Frag} {h : Heap} {mg : Str → Option Value} (X : K.In h) (G : h.Ns mainGlobals mg) (c0 : He.SaysT fa fn ts w K) (e : ex K = true) : ∃ T : Tx w K mg, T.f_law = He.ga K "law" := by
  have c := c0.d
  obtain ⟨v_DEEPEST, u_DEEPEST, g_DEEPEST, r_DEEPEST, y_DEEPEST⟩ := cst_ok X G (exB e 0 rfl : cstB K "DEEPEST" c_DEEPEST = true)
  obtain ⟨v_PLACES, u_PLACES, g_PLACES, r_PLACES, y_PLACES⟩ := cst_ok X G (exB e 1 rfl : cstB K "PLACES" c_PLACES = true)
  obtain ⟨v_SIZES, u_SIZES, g_SIZES, r_SIZES, y_SIZES⟩ := cst_ok X G (exB e 2 rfl : cstB K "SIZES" c_SIZES = true)
  obtain ⟨fdi_InvalidTable, Fi_InvalidTable⟩ := c.def_ 35 (d := ddi_InvalidTable) rfl
  have Fi'_InvalidTable := fun_of (x := "__init__") (qual := "InvalidTable.__init__") (st := si_InvalidTable) (kws := []) Fi_InvalidTable
  obtain ⟨fdi_Undefined, Fi_Undefined⟩ := c.def_ 36 (d := ddi_Undefined) rfl
  have Fi'_Undefined := fun_of (x := "__init__") (qual := "Undefined.__init__") (st := si_Undefined) (kws := []) Fi_Undefined
  obtain ⟨fd_is_bit, F_is_bit⟩ := c.def_ 0 (d := dd_is_bit) rfl
  obtain ⟨fd_is_table, F_is_table⟩ := c.def_ 1 (d := dd_is_table) rfl
  obtain ⟨fd_table_of, F_table_of⟩ := c.def_ 2 (d := dd_table_of) rfl
  obtain ⟨fd_widened, F_widened⟩ := c.def_ 3 (d := dd_widened) rfl
  obtain ⟨fd__is_term, F__is_term⟩ := c.def_ 4 (d := dd__is_term) rfl
  obtain ⟨fd_put_in, F_put_in⟩ := c.def_ 5 (d := dd_put_in) rfl
  obtain ⟨fd__told, F__told⟩ := c.def_ 6 (d := dd__told) rfl
  obtain ⟨fd_term_table, F_term_table⟩ := c.def_ 7 (d := dd_term_table) rfl
  obtain ⟨fd_turned, F_turned⟩ := c.def_ 8 (d := dd_turned) rfl
  obtain ⟨fd_is_plain, F_is_plain⟩ := c.def_ 9 (d := dd_is_plain) rfl
  obtain ⟨fd__applied, F__applied⟩ := c.def_ 10 (d := dd__applied) rfl
  obtain ⟨fd__readings, F__readings⟩ := c.def_ 11 (d := dd__readings) rfl
  obtain ⟨fd_term_of, F_term_of⟩ := c.def_ 12 (d := dd_term_of) rfl
  obtain ⟨fd_term_holds, F_term_holds⟩ := c.def_ 13 (d := dd_term_holds) rfl
  obtain ⟨fd__law_draws, F__law_draws⟩ := c.def_ 14 (d := dd__law_draws) rfl
  obtain ⟨fd__law_take, F__law_take⟩ := c.def_ 15 (d := dd__law_take) rfl
  obtain ⟨fd__law_every, F__law_every⟩ := c.def_ 16 (d := dd__law_every) rfl
  obtain ⟨fd__law_place, F__law_place⟩ := c.def_ 17 (d := dd__law_place) rfl
  obtain ⟨fd__law_six, F__law_six⟩ := c.def_ 18 (d := dd__law_six) rfl
  obtain ⟨fd__law_places_of, F__law_places_of⟩ := c.def_ 19 (d := dd__law_places_of) rfl
  obtain ⟨fd__law_term_table, F__law_term_table⟩ := c.def_ 20 (d := dd__law_term_table) rfl
  obtain ⟨fd__law_is_term, F__law_is_term⟩ := c.def_ 21 (d := dd__law_is_term) rfl
  obtain ⟨fd__law_is_plain, F__law_is_plain⟩ := c.def_ 22 (d := dd__law_is_plain) rfl
  obtain ⟨fd__law_widened, F__law_widened⟩ := c.def_ 23 (d := dd__law_widened) rfl
  obtain ⟨fd__law_claim_holds, F__law_claim_holds⟩ := c.def_ 24 (d := dd__law_claim_holds) rfl
  obtain ⟨fd__law_drawn_term, F__law_drawn_term⟩ := c.def_ 25 (d := dd__law_drawn_term) rfl
  obtain ⟨fd__law_odd, F__law_odd⟩ := c.def_ 26 (d := dd__law_odd) rfl
  obtain ⟨fd__law_told, F__law_told⟩ := c.def_ 27 (d := dd__law_told) rfl
  obtain ⟨fd__law_deep, F__law_deep⟩ := c.def_ 28 (d := dd__law_deep) rfl
  obtain ⟨fd__law_chain, F__law_chain⟩ := c.def_ 29 (d := dd__law_chain) rfl
  obtain ⟨fd__law_size, F__law_size⟩ := c.def_ 30 (d := dd__law_size) rfl
  obtain ⟨fd__law_bent, F__law_bent⟩ := c.def_ 31 (d := dd__law_bent) rfl
  obtain ⟨fd__law_terms_told, F__law_terms_told⟩ := c.def_ 32 (d := dd__law_terms_told) rfl
  obtain ⟨fd__law_claims, F__law_claims⟩ := c.def_ 33 (d := dd__law_claims) rfl
  obtain ⟨fd_law, F_law⟩ := c.def_ 34 (d := dd_law) rfl
  have F'_is_bit := fun_of (x := "is_bit") (qual := "is_bit") (st := s_is_bit) (kws := []) F_is_bit
  have F'_is_table := fun_of (x := "is_table") (qual := "is_table") (st := s_is_table) (kws := []) F_is_table
  have F'_table_of := fun_of (x := "table_of") (qual := "table_of") (st := s_table_of) (kws := []) F_table_of
  have F'_widened := fun_of (x := "widened") (qual := "widened") (st := s_widened) (kws := []) F_widened
  have F'__is_term := fun_of (x := "_is_term") (qual := "_is_term") (st := s__is_term) (kws := []) F__is_term
  have F'_put_in := fun_of (x := "put_in") (qual := "put_in") (st := s_put_in) (kws := []) F_put_in
  have F'__told := fun_of (x := "_told") (qual := "_told") (st := s__told) (kws := []) F__told
  have F'_term_table := fun_of (x := "term_table") (qual := "term_table") (st := s_term_table) (kws := []) F_term_table
  have F'_turned := fun_of (x := "turned") (qual := "turned") (st := s_turned) (kws := []) F_turned
  have F'_is_plain := fun_of (x := "is_plain") (qual := "is_plain") (st := s_is_plain) (kws := []) F_is_plain
  have F'__applied := fun_of (x := "_applied") (qual := "_applied") (st := s__applied) (kws := []) F__applied
  have F'__readings := fun_of (x := "_readings") (qual := "_readings") (st := s__readings) (kws := []) F__readings
  have F'_term_of := fun_of (x := "term_of") (qual := "term_of") (st := s_term_of) (kws := []) F_term_of
  have F'_term_holds := fun_of (x := "term_holds") (qual := "term_holds") (st := s_term_holds) (kws := []) F_term_holds
  have F'__law_draws := fun_of (x := "_law_draws") (qual := "_law_draws") (st := s__law_draws) (kws := []) F__law_draws
  have F'__law_take := fun_of (x := "_law_take") (qual := "_law_take") (st := s__law_take) (kws := []) F__law_take
  have F'__law_every := fun_of (x := "_law_every") (qual := "_law_every") (st := s__law_every) (kws := []) F__law_every
  have F'__law_place := fun_of (x := "_law_place") (qual := "_law_place") (st := s__law_place) (kws := []) F__law_place
  have F'__law_six := fun_of (x := "_law_six") (qual := "_law_six") (st := s__law_six) (kws := []) F__law_six
  have F'__law_places_of := fun_of (x := "_law_places_of") (qual := "_law_places_of") (st := s__law_places_of) (kws := []) F__law_places_of
  have F'__law_term_table := fun_of (x := "_law_term_table") (qual := "_law_term_table") (st := s__law_term_table) (kws := []) F__law_term_table
  have F'__law_is_term := fun_of (x := "_law_is_term") (qual := "_law_is_term") (st := s__law_is_term) (kws := []) F__law_is_term
  have F'__law_is_plain := fun_of (x := "_law_is_plain") (qual := "_law_is_plain") (st := s__law_is_plain) (kws := []) F__law_is_plain
  have F'__law_widened := fun_of (x := "_law_widened") (qual := "_law_widened") (st := s__law_widened) (kws := []) F__law_widened
  have F'__law_claim_holds := fun_of (x := "_law_claim_holds") (qual := "_law_claim_holds") (st := s__law_claim_holds) (kws := []) F__law_claim_holds
  have F'__law_drawn_term := fun_of (x := "_law_drawn_term") (qual := "_law_drawn_term") (st := s__law_drawn_term) (kws := []) F__law_drawn_term
  have F'__law_odd := fun_of (x := "_law_odd") (qual := "_law_odd") (st := s__law_odd) (kws := []) F__law_odd
  have F'__law_told := fun_of (x := "_law_told") (qual := "_law_told") (st := s__law_told) (kws := []) F__law_told
  have F'__law_deep := fun_of (x := "_law_deep") (qual := "_law_deep") (st := s__law_deep) (kws := []) F__law_deep
  have F'__law_chain := fun_of (x := "_law_chain") (qual := "_law_chain") (st := s__law_chain) (kws := []) F__law_chain
  have F'__law_size := fun_of (x := "_law_size") (qual := "_law_size") (st := s__law_size) (kws := []) F__law_size
  have F'__law_bent := fun_of (x := "_law_bent") (qual := "_law_bent") (st := s__law_bent) (kws := []) F__law_bent
  have F'__law_terms_told := fun_of (x := "_law_terms_told") (qual := "_law_terms_told") (st := s__law_terms_told) (kws := []) F__law_terms_told
  have F'__law_claims := fun_of (x := "_law_claims") (qual := "_law_claims") (st := s__law_claims) (kws := []) F__law_claims
  have F'_law := fun_of (x := "law") (qual := "law") (st := s_law) (kws := []) F_law
  exact ⟨{
    C_InvalidTable := He.ga K "InvalidTable"
    I_InvalidTable := He.fAd K ("InvalidTable", some "__init__")
    di_InvalidTable := fdi_InvalidTable
    x_InvalidTable := xcls_ok X G (exB e 3 rfl)
    Fi_InvalidTable := Fi'_InvalidTable
    bi_InvalidTable := (Fi'_InvalidTable.binds (ps := ["self", "value"]) fun _ _ _ _ _ _ us hl => match us, hl with | [_, _], _ => rfl)
    C_Undefined := He.ga K "Undefined"
    I_Undefined := He.fAd K ("Undefined", some "__init__")
    di_Undefined := fdi_Undefined
    x_Undefined := xcls_ok X G (exB e 4 rfl)
    Fi_Undefined := Fi'_Undefined
    bi_Undefined := (Fi'_Undefined.binds (ps := ["self", "what"]) fun _ _ _ _ _ _ us hl => match us, hl with | [_, _], _ => rfl)
    C_CellError := He.ga K "CellError"
    g_CellError := He.glo_ok X G (c.fact 47 (f := .glo "CellError") rfl)
    em_InvalidTable_InvalidTable := He.exm_ok (c.fact 48 (f := .exm "InvalidTable" "InvalidTable" true) rfl)
    em_InvalidTable_Undefined := He.exm_ok (c.fact 49 (f := .exm "InvalidTable" "Undefined" false) rfl)
    em_Undefined_InvalidTable := He.exm_ok (c.fact 50 (f := .exm "Undefined" "InvalidTable" false) rfl)
    em_Undefined_Undefined := He.exm_ok (c.fact 51 (f := .exm "Undefined" "Undefined" true) rfl)
    kt_0 := of_decide_eq_true (exB e 5 rfl)
    kt_1 := of_decide_eq_true (exB e 6 rfl)
    a_TABLES := _
    d_TABLES := dic_ok X G (exB e 7 rfl) (c0.tab 0)
    f_is_bit := _
    d_is_bit := fd_is_bit
    F_is_bit := F'_is_bit
    g_is_bit := He.glo_ok X G (c.fact 0 (f := .glo "is_bit") rfl)
    b_is_bit := (F'_is_bit.binds (ps := ["value"]) fun _ _ _ _ _ _ us hl => match us, hl with | [_], _ => rfl)
    f_is_table := _
    d_is_table := fd_is_table
    F_is_table := F'_is_table
    g_is_table := He.glo_ok X G (c.fact 1 (f := .glo "is_table") rfl)
    b_is_table := (F'_is_table.binds (ps := ["value", "m"]) fun _ _ _ _ _ _ us hl => match us, hl with | [_, _], _ => rfl)
    f_table_of := _
    d_table_of := fd_table_of
    F_table_of := F'_table_of
    g_table_of := He.glo_ok X G (c.fact 2 (f := .glo "table_of") rfl)
    b_table_of := (F'_table_of.binds (ps := ["word"]) fun _ _ _ _ _ _ us hl => match us, hl with | [_], _ => rfl)
    f_widened := _
    d_widened := fd_widened
    F_widened := F'_widened
    g_widened := He.glo_ok X G (c.fact 3 (f := .glo "widened") rfl)
    b_widened := (F'_widened.binds (ps := ["table"]) fun _ _ _ _ _ _ us hl => match us, hl with | [_], _ => rfl)
    f__is_term := _
    d__is_term := fd__is_term
    F__is_term := F'__is_term
    g__is_term := He.glo_ok X G (c.fact 4 (f := .glo "_is_term") rfl)
    b__is_term := (F'__is_term.binds (ps := ["value", "left"]) fun _ _ _ _ _ _ us hl => match us, hl with | [_, _], _ => rfl)
    f_put_in := _
    d_put_in := fd_put_in
    F_put_in := F'_put_in
    g_put_in := He.glo_ok X G (c.fact 5 (f := .glo "put_in") rfl)
    b_put_in := (F'_put_in.binds (ps := ["table", "parts"]) fun _ _ _ _ _ _ us hl => match us, hl with | [_, _], _ => rfl)
    f__told := _
    d__told := fd__told
    F__told := F'__told
    g__told := He.glo_ok X G (c.fact 6 (f := .glo "_told") rfl)
    b__told := (F'__told.binds (ps := ["table", "term"]) fun _ _ _ _ _ _ us hl => match us, hl with | [_, _], _ => rfl)
    f_term_table := _
    d_term_table := fd_term_table
    F_term_table := F'_term_table
    g_term_table := He.glo_ok X G (c.fact 7 (f := .glo "term_table") rfl)
    b_term_table := (F'_term_table.binds (ps := ["table", "term"]) fun _ _ _ _ _ _ us hl => match us, hl with | [_, _], _ => rfl)
    f_turned := _
    d_turned := fd_turned
    F_turned := F'_turned
    g_turned := He.glo_ok X G (c.fact 8 (f := .glo "turned") rfl)
    b_turned := (F'_turned.binds (ps := ["table"]) fun _ _ _ _ _ _ us hl => match us, hl with | [_], _ => rfl)
    f_is_plain := _
    d_is_plain := fd_is_plain
    F_is_plain := F'_is_plain
    g_is_plain := He.glo_ok X G (c.fact 9 (f := .glo "is_plain") rfl)
    b_is_plain := (F'_is_plain.binds (ps := ["table"]) fun _ _ _ _ _ _ us hl => match us, hl with | [_], _ => rfl)
    f__applied := _
    d__applied := fd__applied
    F__applied := F'__applied
    g__applied := He.glo_ok X G (c.fact 10 (f := .glo "_applied") rfl)
    b__applied := (F'__applied.binds (ps := ["turns", "parts"]) fun _ _ _ _ _ _ us hl => match us, hl with | [_, _], _ => rfl)
    f__readings := _
    d__readings := fd__readings
    F__readings := F'__readings
    g__readings := He.glo_ok X G (c.fact 11 (f := .glo "_readings") rfl)
    b__readings := (F'__readings.binds (ps := ["table"]) fun _ _ _ _ _ _ us hl => match us, hl with | [_], _ => rfl)
    f_term_of := _
    d_term_of := fd_term_of
    F_term_of := F'_term_of
    g_term_of := He.glo_ok X G (c.fact 12 (f := .glo "term_of") rfl)
    b_term_of := (F'_term_of.binds (ps := ["table"]) fun _ _ _ _ _ _ us hl => match us, hl with | [_], _ => rfl)
    f_term_holds := _
    d_term_holds := fd_term_holds
    F_term_holds := F'_term_holds
    g_term_holds := He.glo_ok X G (c.fact 13 (f := .glo "term_holds") rfl)
    b_term_holds := (F'_term_holds.binds (ps := ["table", "claim"]) fun _ _ _ _ _ _ us hl => match us, hl with | [_, _], _ => rfl)
    f__law_draws := _
    d__law_draws := fd__law_draws
    F__law_draws := F'__law_draws
    g__law_draws := He.glo_ok X G (c.fact 14 (f := .glo "_law_draws") rfl)
    b__law_draws := (F'__law_draws.binds (ps := ["script", "many"]) fun _ _ _ _ _ _ us hl => match us, hl with | [_, _], _ => rfl)
    f__law_take := _
    d__law_take := fd__law_take
    F__law_take := F'__law_take
    g__law_take := He.glo_ok X G (c.fact 15 (f := .glo "_law_take") rfl)
    b__law_take := (F'__law_take.binds (ps := ["hand", "many"]) fun _ _ _ _ _ _ us hl => match us, hl with | [_, _], _ => rfl)
    f__law_every := _
    d__law_every := fd__law_every
    F__law_every := F'__law_every
    g__law_every := He.glo_ok X G (c.fact 16 (f := .glo "_law_every") rfl)
    b__law_every := (F'__law_every.binds (ps := ["many"]) fun _ _ _ _ _ _ us hl => match us, hl with | [_], _ => rfl)
    f__law_place := _
    d__law_place := fd__law_place
    F__law_place := F'__law_place
    g__law_place := He.glo_ok X G (c.fact 17 (f := .glo "_law_place") rfl)
    b__law_place := (F'__law_place.binds (ps := ["row"]) fun _ _ _ _ _ _ us hl => match us, hl with | [_], _ => rfl)
    f__law_six := _
    d__law_six := fd__law_six
    F__law_six := F'__law_six
    g__law_six := He.glo_ok X G (c.fact 18 (f := .glo "_law_six") rfl)
    b__law_six := (F'__law_six.binds (ps := []) fun _ _ _ _ _ _ us hl => match us, hl with | [], _ => rfl)
    f__law_places_of := _
    d__law_places_of := fd__law_places_of
    F__law_places_of := F'__law_places_of
    g__law_places_of := He.glo_ok X G (c.fact 19 (f := .glo "_law_places_of") rfl)
    b__law_places_of := (F'__law_places_of.binds (ps := ["table"]) fun _ _ _ _ _ _ us hl => match us, hl with | [_], _ => rfl)
    f__law_term_table := _
    d__law_term_table := fd__law_term_table
    F__law_term_table := F'__law_term_table
    g__law_term_table := He.glo_ok X G (c.fact 20 (f := .glo "_law_term_table") rfl)
    b__law_term_table := (F'__law_term_table.binds (ps := ["table", "term"]) fun _ _ _ _ _ _ us hl => match us, hl with | [_, _], _ => rfl)
    f__law_is_term := _
    d__law_is_term := fd__law_is_term
    F__law_is_term := F'__law_is_term
    g__law_is_term := He.glo_ok X G (c.fact 21 (f := .glo "_law_is_term") rfl)
    b__law_is_term := (F'__law_is_term.binds (ps := ["value", "depth"]) fun _ _ _ _ _ _ us hl => match us, hl with | [_, _], _ => rfl)
    f__law_is_plain := _
    d__law_is_plain := fd__law_is_plain
    F__law_is_plain := F'__law_is_plain
    g__law_is_plain := He.glo_ok X G (c.fact 22 (f := .glo "_law_is_plain") rfl)
    b__law_is_plain := (F'__law_is_plain.binds (ps := ["table"]) fun _ _ _ _ _ _ us hl => match us, hl with | [_], _ => rfl)
    f__law_widened := _
    d__law_widened := fd__law_widened
    F__law_widened := F'__law_widened
    g__law_widened := He.glo_ok X G (c.fact 23 (f := .glo "_law_widened") rfl)
    b__law_widened := (F'__law_widened.binds (ps := ["table", "m"]) fun _ _ _ _ _ _ us hl => match us, hl with | [_, _], _ => rfl)
    f__law_claim_holds := _
    d__law_claim_holds := fd__law_claim_holds
    F__law_claim_holds := F'__law_claim_holds
    g__law_claim_holds := He.glo_ok X G (c.fact 24 (f := .glo "_law_claim_holds") rfl)
    b__law_claim_holds := (F'__law_claim_holds.binds (ps := ["table", "claim"]) fun _ _ _ _ _ _ us hl => match us, hl with | [_, _], _ => rfl)
    f__law_drawn_term := _
    d__law_drawn_term := fd__law_drawn_term
    F__law_drawn_term := F'__law_drawn_term
    g__law_drawn_term := He.glo_ok X G (c.fact 25 (f := .glo "_law_drawn_term") rfl)
    b__law_drawn_term := (F'__law_drawn_term.binds (ps := ["hand", "depth"]) fun _ _ _ _ _ _ us hl => match us, hl with | [_, _], _ => rfl)
    f__law_odd := _
    d__law_odd := fd__law_odd
    F__law_odd := F'__law_odd
    g__law_odd := He.glo_ok X G (c.fact 26 (f := .glo "_law_odd") rfl)
    b__law_odd := (F'__law_odd.binds (ps := ["hand"]) fun _ _ _ _ _ _ us hl => match us, hl with | [_], _ => rfl)
    f__law_told := _
    d__law_told := fd__law_told
    F__law_told := F'__law_told
    g__law_told := He.glo_ok X G (c.fact 27 (f := .glo "_law_told") rfl)
    b__law_told := (F'__law_told.binds (ps := ["table", "term"]) fun _ _ _ _ _ _ us hl => match us, hl with | [_, _], _ => rfl)
    f__law_deep := _
    d__law_deep := fd__law_deep
    F__law_deep := F'__law_deep
    g__law_deep := He.glo_ok X G (c.fact 28 (f := .glo "_law_deep") rfl)
    b__law_deep := (F'__law_deep.binds (ps := ["hand", "many"]) fun _ _ _ _ _ _ us hl => match us, hl with | [_, _], _ => rfl)
    f__law_chain := _
    d__law_chain := fd__law_chain
    F__law_chain := F'__law_chain
    g__law_chain := He.glo_ok X G (c.fact 29 (f := .glo "_law_chain") rfl)
    b__law_chain := (F'__law_chain.binds (ps := ["hand", "word"]) fun _ _ _ _ _ _ us hl => match us, hl with | [_, _], _ => rfl)
    f__law_size := _
    d__law_size := fd__law_size
    F__law_size := F'__law_size
    g__law_size := He.glo_ok X G (c.fact 30 (f := .glo "_law_size") rfl)
    b__law_size := (F'__law_size.binds (ps := ["term"]) fun _ _ _ _ _ _ us hl => match us, hl with | [_], _ => rfl)
    f__law_bent := _
    d__law_bent := fd__law_bent
    F__law_bent := F'__law_bent
    g__law_bent := He.glo_ok X G (c.fact 31 (f := .glo "_law_bent") rfl)
    b__law_bent := (F'__law_bent.binds (ps := ["hand", "term"]) fun _ _ _ _ _ _ us hl => match us, hl with | [_, _], _ => rfl)
    f__law_terms_told := _
    d__law_terms_told := fd__law_terms_told
    F__law_terms_told := F'__law_terms_told
    g__law_terms_told := He.glo_ok X G (c.fact 32 (f := .glo "_law_terms_told") rfl)
    b__law_terms_told := (F'__law_terms_told.binds (ps := ["hand", "table"]) fun _ _ _ _ _ _ us hl => match us, hl with | [_, _], _ => rfl)
    f__law_claims := _
    d__law_claims := fd__law_claims
    F__law_claims := F'__law_claims
    g__law_claims := He.glo_ok X G (c.fact 33 (f := .glo "_law_claims") rfl)
    b__law_claims := (F'__law_claims.binds (ps := ["hand", "table"]) fun _ _ _ _ _ _ us hl => match us, hl with | [_, _], _ => rfl)
    f_law := _
    d_law := fd_law
    F_law := F'_law
    g_law := He.glo_ok X G (c.fact 34 (f := .glo "law") rfl)
    b_law := (F'_law.binds (ps := ["script"]) fun _ _ _ _ _ _ us hl => match us, hl with | [_], _ => rfl)
    n_abs := He.free_ok X G (c.fact 35 (f := .free "abs") rfl)
    n_all := He.free_ok X G (c.fact 36 (f := .free "all") rfl)
    n_bool := He.free_ok X G (c.fact 37 (f := .free "bool") rfl)
    n_int := He.free_ok X G (c.fact 38 (f := .free "int") rfl)
    n_isinstance := He.free_ok X G (c.fact 39 (f := .free "isinstance") rfl)
    n_len := He.free_ok X G (c.fact 40 (f := .free "len") rfl)
    n_list := He.free_ok X G (c.fact 41 (f := .free "list") rfl)
    n_range := He.free_ok X G (c.fact 42 (f := .free "range") rfl)
    n_repr := He.free_ok X G (c.fact 43 (f := .free "repr") rfl)
    n_str := He.free_ok X G (c.fact 44 (f := .free "str") rfl)
    n_sum := He.free_ok X G (c.fact 45 (f := .free "sum") rfl)
    n_tuple := He.free_ok X G (c.fact 46 (f := .free "tuple") rfl)
    v_DEEPEST := v_DEEPEST
    u_DEEPEST := u_DEEPEST
    g_DEEPEST := g_DEEPEST
    r_DEEPEST := r_DEEPEST
    y_DEEPEST := y_DEEPEST
    v_PLACES := v_PLACES
    u_PLACES := u_PLACES
    g_PLACES := g_PLACES
    r_PLACES := r_PLACES
    y_PLACES := y_PLACES
    v_SIZES := v_SIZES
    u_SIZES := u_SIZES
    g_SIZES := g_SIZES
    r_SIZES := r_SIZES
    y_SIZES := y_SIZES }, rfl⟩
end K07
open PySem PySem.W PySem.Calls PyProof.Rows
theorem PySem.Challenge.cw_cellrealm_k07_terms_right_and_spoilt_holds : PySem.Challenge.rw_cellrealm_k07_terms_right_and_spoilt.Holds := by
  w_on; o_law
  refine HandSHeadRun.head_any (r := K07.R) (q := K07.qv) (H := Mir.hookN 4 K07.fa K07.fn K07.ts K07.ex) (ob := Mir.obN 4 K07.fa K07.fn K07.ts K07.ex) (M := 20000) (loose := K07.loose) (d := HandSHeadRun.topDef K07.R.prog 45) (kwd := []) Mir.obN_eq
    (by kernel_rfl) (fun s => by kernel_rfl) K07.run (by kernel_rfl) (by kernel_rfl) (by kernel_rfl) (by rfl) (by first | assumption | decide +kernel) (by decide +kernel) ⟨rfl, rfl, rfl, rfl, rfl, by decide +kernel⟩ ?hw ?hc
  case hw => w_witness2
  case hc =>
    refine Mir.walk_mir (l := PySem.Challenge.rw_cellrealm_k07_terms_right_and_spoilt) (n := 63) (k := 26) (x := "script") (m := K07.m_law) rfl (by decide) (by kernel_rfl) ⟨rfl, by decide, by decide⟩ ?F K07.law_true
    intro w mg fa h Y G hmg0
    obtain ⟨K, KX, c, e⟩ := Y
    have hmg : mg ("law" : PySem.Str) = some (.ref fa) := by
      have e : (HandSHeadRun.topDef K07.R.prog 45).name = ("law" : PySem.Str) := by kernel_rfl
      rw [← e]
      exact hmg0
    obtain ⟨T, eT⟩ := K07.tx_of KX G c e
    have ea := hmg.symm.trans T.g_law
    cases ea
    exact ⟨K, T.d_law, KX, Mir.bind1 T.F_law fun _ _ _ _ _ _ _ => rfl, fun base _ _ => T.ok_law⟩
