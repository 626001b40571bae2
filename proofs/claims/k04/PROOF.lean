import PyProof.Rows.All
import HandS.ForMost
import HandS.WordsExc
import HandS.TupAny
import HandS.IsInst
import HandS.Defaults
import HandS.HeadHook1
import HandS.CallSlots
import HandS.HeadEnd
import PyProof.ReprReads
import KE.DataMinMax
import HandS.TupMul
import HandS.Head2
import HandS.HeadHook2
import HandS.ExcInit
import HandS.ExcField
import KE.KExcIs
import HandS.Deep
import HandS.TupLe
import HandS.TryOnly
import HandS.HeadHook3
import PyProof.ReprLen
import HandS.Zip
import HandS.Zip0
import HandS.Iter
import HandS.Style
import HandS.DictComp
import HandS.TupSets
import HandS.Conv
import KE.KDictKeyed
import Wide.All
import OpenK.AllK
import Wide.FinOn
import KE.KStateDown
import Lean
import PySem.Challenge.RW_cellrealm_k04_six_deeds
set_option Elab.async false
set_option linter.all false
set_option maxRecDepth 100000
set_option maxHeartbeats 4000000
/-! Mir0: pure values, worlds, the relation between a world and the abstract heap. -/
namespace Mir
open PySem PySem.Spec PyProof.Rows L2

/-- a value as plain data. lst: a list that is never changed any more; cl: a list that is locked or written; obj: a shared object of the store -/
inductive PV where
  | non | bl (b : Bool) | int (i : Int) | str (x : Str)
  | tup (xs : List PV) | lst (xs : List PV) | cl (xs : List PV) | obj (n : Nat)
  /-- a dict, an instance of an own class, that is never changed any more; a def of the module -/
  | dk (ks : List Key) (xs : List PV) | ins (c : Str) (ns : List Str) (xs : List PV) | fn (x : Str)
/-- what an object of the store (or a list that a def is still filling) holds -/
inductive SO where
  | lst (xs : List PV) | dk (ks : List Key) (xs : List PV) | ins (c : Str) (ns : List Str) (xs : List PV)
abbrev Store := List SO
inductive Res (α : Type) where
  | ok (a : α) (S : Store) | exc (c : Str) (fs : List (Str × PV)) (S : Store) | bad
def Res.bind {α β : Type} : Res α → (α → Store → Res β) → Res β
  | .ok a S, f => f a S
  | .exc c fs S, _ => .exc c fs S
  | .bad, _ => .bad
/-- no exception is let through -/
def Res.nox {α : Type} : Res α → Res α
  | .ok a S => .ok a S
  | _ => .bad

def cut (H : Hp) (O : List Addr) : Hp := fun a => if a ∈ O then none else H a
theorem cut_out {H : Hp} {O : List Addr} {a : Addr} (h : a ∉ O) : cut H O a = H a := by unfold cut; rw [if_neg h]
theorem cut_in {H : Hp} {O : List Addr} {a : Addr} (h : a ∈ O) : cut H O a = none := by unfold cut; rw [if_pos h]
theorem cut_some {H : Hp} {O : List Addr} {a : Addr} {o : HO} (h : cut H O a = some o) : a ∉ O ∧ H a = some o := by
  by_cases m : a ∈ O
  · rw [cut_in m] at h; cases h
  · rw [cut_out m] at h; exact ⟨m, h⟩

section
variable (K : PySem.W.Frag) (L : List Addr) (Hc : Hp)
mutual
def RV : PV → V → Prop
  | .non, v => v = .non
  | .bl b, v => v = .bl b
  | .int i, v => v = .int i
  | .str x, v => v = .str x
  | .tup xs, v => ∃ a vs, v = .ref a ∧ SqT K Hc a vs ∧ RVs xs vs
  | .lst xs, v => ∃ a vs, v = .ref a ∧ Hc a = some (.lst vs) ∧ RVs xs vs
  | .cl xs, v => ∃ a vs, v = .ref a ∧ SqL K Hc a vs ∧ RVs xs vs
  | .obj n, v => ∃ a, v = .ref a ∧ L[n]? = some a
  | .dk ks xs, v => ∃ a vs, v = .ref a ∧ Hc a = some (.dK (ks.zip vs)) ∧ xs.length = ks.length ∧ RVs xs vs
  | .ins c ns xs, v => ∃ a dx vs, v = .ref a ∧ Hc a = some (.ins (He.ga K c) dx (ns.zip vs)) ∧ xs.length = ns.length ∧ RVs xs vs
  | .fn x, v => v = .ref (He.ga K x)
def RVs : List PV → List V → Prop
  | [], vs => vs = []
  | x :: xs, vs => ∃ v r, vs = v :: r ∧ RV x v ∧ RVs xs r
end
def RF : List (Str × PV) → List (Str × V) → Prop
  | [], vs => vs = []
  | (f, x) :: xs, vs => ∃ v r, vs = (f, v) :: r ∧ RV K L Hc x v ∧ RF xs r
/-- what stands at an address holds o -/
def SOk : Option HO → SO → Prop
  | ho, .lst xs => ∃ vs, ho = some (.lst vs) ∧ RVs K L Hc xs vs
  | ho, .dk ks xs => ∃ vs, ho = some (.dK (ks.zip vs)) ∧ xs.length = ks.length ∧ RVs K L Hc xs vs
  | ho, .ins c ns xs => ∃ dx vs, ho = some (.ins (He.ga K c) dx (ns.zip vs)) ∧ xs.length = ns.length ∧ RVs K L Hc xs vs
end

section
variable {K : PySem.W.Frag} {L L' : List Addr} {Hc Hc' : Hp}
theorem sqT_mono (e : ∀ a o, Hc a = some o → Hc' a = some o) {a : Addr} {vs : List V} (h : SqT K Hc a vs) : SqT K Hc' a vs := by
  rcases h with (h | ⟨o, h⟩) | h
  · exact .inl (.inl (e _ _ h))
  · exact .inl (.inr ⟨o, e _ _ h⟩)
  · exact .inr h
theorem sqL_mono (e : ∀ a o, Hc a = some o → Hc' a = some o) {a : Addr} {vs : List V} (h : SqL K Hc a vs) : SqL K Hc' a vs := by
  rcases h with (h | ⟨o, h⟩) | h
  · exact .inl (.inl (e _ _ h))
  · exact .inl (.inr ⟨o, e _ _ h⟩)
  · exact .inr h
theorem pre_get {l : L <+: L'} {n : Nat} {a : Addr} (h : L[n]? = some a) : L'[n]? = some a := by
  obtain ⟨t, rfl⟩ := l
  rw [List.getElem?_append_left (List.getElem?_eq_some_iff.mp h).1]
  exact h
mutual
theorem RV.mono (l : L <+: L') (e : ∀ a o, Hc a = some o → Hc' a = some o) : ∀ {x : PV} {v : V}, RV K L Hc x v → RV K L' Hc' x v
  | .non, _, h => h
  | .bl _, _, h => h
  | .int _, _, h => h
  | .str _, _, h => h
  | .tup xs, _, h => by
    obtain ⟨a, vs, h1, h2, h3⟩ := h
    exact ⟨a, vs, h1, sqT_mono e h2, RVs.mono l e h3⟩
  | .lst xs, _, h => by
    obtain ⟨a, vs, h1, h2, h3⟩ := h
    exact ⟨a, vs, h1, e _ _ h2, RVs.mono l e h3⟩
  | .cl xs, _, h => by
    obtain ⟨a, vs, h1, h2, h3⟩ := h
    exact ⟨a, vs, h1, sqL_mono e h2, RVs.mono l e h3⟩
  | .obj n, _, h => by
    obtain ⟨a, h1, h2⟩ := h
    exact ⟨a, h1, pre_get (l := l) h2⟩
  | .dk ks xs, _, h => by
    obtain ⟨a, vs, h1, h2, h3, h4⟩ := h
    exact ⟨a, vs, h1, e _ _ h2, h3, RVs.mono l e h4⟩
  | .ins c ns xs, _, h => by
    obtain ⟨a, dx, vs, h1, h2, h3, h4⟩ := h
    exact ⟨a, dx, vs, h1, e _ _ h2, h3, RVs.mono l e h4⟩
  | .fn _, _, h => h
theorem RVs.mono (l : L <+: L') (e : ∀ a o, Hc a = some o → Hc' a = some o) : ∀ {xs : List PV} {vs : List V}, RVs K L Hc xs vs → RVs K L' Hc' xs vs
  | [], _, h => h
  | x :: xs, _, h => by
    obtain ⟨v, r, h1, h2, h3⟩ := h
    exact ⟨v, r, h1, RV.mono l e h2, RVs.mono l e h3⟩
end
theorem RF.mono (l : L <+: L') (e : ∀ a o, Hc a = some o → Hc' a = some o) : ∀ {xs : List (Str × PV)} {vs : List (Str × V)}, RF K L Hc xs vs → RF K L' Hc' xs vs
  | [], _, h => h
  | (f, x) :: xs, _, h => by
    obtain ⟨v, r, h1, h2, h3⟩ := h
    exact ⟨v, r, h1, RV.mono l e h2, RF.mono l e h3⟩
theorem SOk.mono (l : L <+: L') (e : ∀ a o, Hc a = some o → Hc' a = some o) : ∀ {o : SO} {ho : Option HO}, SOk K L Hc ho o → SOk K L' Hc' ho o
  | .lst xs, _, h => by
    obtain ⟨vs, h1, h2⟩ := h
    exact ⟨vs, h1, RVs.mono l e h2⟩
  | .dk ks xs, _, h => by
    obtain ⟨vs, h1, h2, h3⟩ := h
    exact ⟨vs, h1, h2, RVs.mono l e h3⟩
  | .ins c ns xs, _, h => by
    obtain ⟨dx, vs, h1, h2, h3⟩ := h
    exact ⟨dx, vs, h1, h2, RVs.mono l e h3⟩
theorem SOk.some : ∀ {o : SO} {ho : Option HO}, SOk K L Hc ho o → ∃ u, ho = some u
  | .lst _, _, ⟨_, h, _⟩ => ⟨_, h⟩
  | .dk _ _, _, ⟨_, h, _⟩ => ⟨_, h⟩
  | .ins _ _ _, _, ⟨_, _, h, _⟩ => ⟨_, h⟩
theorem RVs.len : ∀ {xs : List PV} {vs : List V}, RVs K L Hc xs vs → vs.length = xs.length
  | [], _, h => by
    have h : _ = [] := h
    subst h; rfl
  | x :: xs, _, h => by
    obtain ⟨v, r, rfl, _, h3⟩ := h
    simp [RVs.len h3]
theorem RVs.get : ∀ {xs : List PV} {vs : List V} {i : Nat} {x : PV}, RVs K L Hc xs vs → xs[i]? = some x → ∃ v, vs[i]? = some v ∧ RV K L Hc x v
  | [], _, _, _, _, e => by simp at e
  | x :: xs, _, 0, _, h, e => by
    obtain ⟨v, r, rfl, h2, h3⟩ := h
    simp at e; subst e
    exact ⟨v, rfl, h2⟩
  | x :: xs, _, i + 1, _, h, e => by
    obtain ⟨v, r, rfl, h2, h3⟩ := h
    obtain ⟨w, h4, h5⟩ := RVs.get (i := i) h3 (by simpa using e)
    exact ⟨w, by simpa using h4, h5⟩
theorem RVs.append : ∀ {xs ys : List PV} {vs ws : List V}, RVs K L Hc xs vs → RVs K L Hc ys ws → RVs K L Hc (xs ++ ys) (vs ++ ws)
  | [], _, _, _, h, h' => by
    have h : _ = [] := h
    subst h; exact h'
  | x :: xs, _, _, _, h, h' => by
    obtain ⟨v, r, rfl, h2, h3⟩ := h
    exact ⟨v, r ++ _, rfl, h2, RVs.append h3 h'⟩
theorem RVs.take : ∀ {xs : List PV} {vs : List V} (n : Nat), RVs K L Hc xs vs → RVs K L Hc (xs.take n) (vs.take n)
  | [], _, n, h => by
    have h : _ = [] := h
    subst h; simp; exact rfl
  | x :: xs, _, 0, h => rfl
  | x :: xs, _, n + 1, h => by
    obtain ⟨v, r, rfl, h2, h3⟩ := h
    exact ⟨v, r.take n, rfl, h2, RVs.take n h3⟩
theorem RVs.drop : ∀ {xs : List PV} {vs : List V} (n : Nat), RVs K L Hc xs vs → RVs K L Hc (xs.drop n) (vs.drop n)
  | [], _, n, h => by
    have h : _ = [] := h
    subst h; simp; exact rfl
  | x :: xs, _, 0, h => h
  | x :: xs, _, n + 1, h => by
    obtain ⟨v, r, rfl, h2, h3⟩ := h
    exact RVs.drop n h3
theorem RVs.set {y : PV} {w : V} (hy : RV K L Hc y w) : ∀ {xs : List PV} {vs : List V} (n : Nat), RVs K L Hc xs vs → RVs K L Hc (xs.set n y) (vs.set n w)
  | [], _, n, h => by
    have h : _ = [] := h
    subst h; exact rfl
  | x :: xs, _, 0, h => by
    obtain ⟨v, r, rfl, h2, h3⟩ := h
    exact ⟨w, r, rfl, hy, h3⟩
  | x :: xs, _, n + 1, h => by
    obtain ⟨v, r, rfl, h2, h3⟩ := h
    exact ⟨v, _, rfl, h2, RVs.set hy n h3⟩
theorem RVs.one {x : PV} {v : V} (h : RV K L Hc x v) : RVs K L Hc [x] [v] := ⟨v, [], rfl, h, rfl⟩
theorem RVs.nil : RVs K L Hc [] [] := rfl
theorem RVs.cons {x : PV} {v : V} {xs : List PV} {vs : List V} (h : RV K L Hc x v) (t : RVs K L Hc xs vs) : RVs K L Hc (x :: xs) (v :: vs) := ⟨v, vs, rfl, h, t⟩
end

/-! ### worlds -/
structure Wd where
  L : List Addr
  O : List Addr
  H : Hp
  S : Store
  pin : Option (Addr × Addr × (Str → Prop)) := none
abbrev Wd.hc (w : Wd) : Hp := cut w.H w.O
structure WOk (K : PySem.W.Frag) (w : Wd) : Prop where
  sub : ∀ a ∈ w.L, a ∈ w.O
  nd : w.L.Nodup
  len : w.S.length = w.L.length
  st : ∀ (n : Nat) o a, w.S[n]? = some o → w.L[n]? = some a → SOk K w.L w.hc (w.H a) o
  dom : ∀ a ∈ w.O, ∃ o, w.H a = some o
structure WStep (w w' : Wd) : Prop where
  pre : w.L <+: w'.L
  keep : ∀ a o, w.H a = some o → a ∉ w.L → w'.H a = some o
  omono : ∀ a ∈ w.O, a ∈ w'.O
  oset : ∀ a ∈ w'.O, a ∈ w.O ∨ w.H a = none
  lset : ∀ a ∈ w'.L, a ∈ w.L ∨ w.H a = none
/-- no object that is there goes away -/
structure VStep (w w' : Wd) : Prop where
  pre : w.L <+: w'.L
  ext : ∀ a o, w.hc a = some o → w'.hc a = some o
theorem VStep.refl (w : Wd) : VStep w w := ⟨List.prefix_refl _, fun _ _ h => h⟩
theorem VStep.trans {w w1 w2 : Wd} (a : VStep w w1) (b : VStep w1 w2) : VStep w w2 := ⟨a.pre.trans b.pre, fun x o h => b.ext x o (a.ext x o h)⟩
section
variable {K : PySem.W.Frag} {w w1 w2 : Wd}
theorem WStep.refl (k : ∀ a ∈ w.L, a ∈ w.O) : WStep w w := ⟨List.prefix_refl _, fun _ _ h _ => h, fun _ h => h, fun _ h => .inl h, fun _ h => .inl h⟩
theorem WStep.ext (s : WStep w w1) (k : ∀ a ∈ w.L, a ∈ w.O) : ∀ a o, w.hc a = some o → w1.hc a = some o := fun a o h => by
  obtain ⟨h1, h2⟩ := cut_some h
  have h3 : a ∉ w1.O := fun z => by
    rcases s.oset a z with q | q
    · exact h1 q
    · rw [q] at h2; cases h2
  show cut _ _ _ = _
  rw [cut_out h3]
  exact s.keep a o h2 fun z => h1 (k a z)
theorem WStep.v (s : WStep w w1) (k : ∀ a ∈ w.L, a ∈ w.O) : VStep w w1 := ⟨s.pre, s.ext k⟩
theorem WStep.trans (a : WStep w w1) (b : WStep w1 w2) (kd : ∀ a ∈ w.L, ∃ o, w.H a = some o) (kd1 : ∀ a ∈ w1.L, ∃ o, w1.H a = some o) : WStep w w2 := by
  have none_back : ∀ x, w1.H x = none → x ∉ w.L → w.H x = none := fun x h nx => by
    cases q : w.H x with
    | none => rfl
    | some o =>
      rw [a.keep x o q nx] at h
      cases h
  refine ⟨a.pre.trans b.pre, fun x o h n => ?_, fun x h => b.omono x (a.omono x h), fun x h => ?_, fun x h => ?_⟩
  · refine b.keep x o (a.keep x o h n) fun z => ?_
    rcases a.lset x z with q | q
    · exact n q
    · rw [q] at h; cases h
  · rcases b.oset x h with q | q
    · exact a.oset x q
    · by_cases nx : x ∈ w.L
      · have : x ∈ w1.L := a.pre.subset nx
        obtain ⟨o, e⟩ := kd1 x this
        rw [q] at e; cases e
      · exact .inr (none_back x q nx)
  · rcases b.lset x h with q | q
    · exact a.lset x q
    · by_cases nx : x ∈ w.L
      · exact .inl nx
      · exact .inr (none_back x q nx)
theorem WOk.domL (k : WOk K w) : ∀ a ∈ w.L, ∃ o, w.H a = some o := fun a h => k.dom a (k.sub a h)
theorem WStep.tr (a : WStep w w1) (b : WStep w1 w2) (k : WOk K w) (k1 : WOk K w1) : WStep w w2 := a.trans b k.domL k1.domL
/-- a fresh address -/
theorem WOk.nin (k : WOk K w) {p : Addr} (h : w.H p = none) : p ∉ w.O := fun z => by
  obtain ⟨o, e⟩ := k.dom p z
  rw [h] at e; cases e
theorem WOk.ninL (k : WOk K w) {p : Addr} (h : w.H p = none) : p ∉ w.L := fun z => k.nin h (k.sub p z)
end

/-! ### the frame -/
inductive Slot where
  | none | val (x : PV) | own (o : SO) | pin (c : Str) (fs : List (Str × PV))
abbrev Rho := List Slot
structure FI (K : PySem.W.Frag) (G w : Wd) (ρ : Rho) (σ : L2.St) : Prop where
  gok : WOk K G
  ok : WOk K w
  stp : WStep G w
  len : σ.length = ρ.length
  val : ∀ (i : Nat) x, ρ[i]? = some (.val x) → ∃ v, σ[i]? = some (some v) ∧ RV K w.L w.hc x v
  own : ∀ (i : Nat) o, ρ[i]? = some (.own o) → ∃ p, σ[i]? = some (some (.ref p)) ∧ p ∈ w.O ∧ p ∉ w.L ∧ G.H p = Option.none ∧ SOk K w.L w.hc (w.H p) o
  dis : ∀ (i j : Nat) oi oj, i ≠ j → ρ[i]? = some (.own oi) → ρ[j]? = some (.own oj) → σ[i]? ≠ σ[j]?
  pin : ∀ (i : Nat) c fs, ρ[i]? = some (.pin c fs) → ∃ a d P vs, G.pin = some (a, d, P) ∧ σ[i]? = some (some (.ref a)) ∧ P c ∧ w.hc d = some (.xd vs) ∧ RF K w.L w.hc fs vs

section
variable {K : PySem.W.Frag} {G w w' : Wd} {ρ : Rho} {σ : L2.St}
theorem FI.step (I : FI K G w ρ σ) (s : WStep w w') (k : WOk K w') : FI K G w' ρ σ := by
  have e := s.ext I.ok.sub
  refine ⟨I.gok, k, I.stp.tr s I.gok I.ok, I.len, fun i x h => ?_, fun i o h => ?_, I.dis, fun i c fs h => ?_⟩
  · obtain ⟨v, h1, h2⟩ := I.val i x h
    exact ⟨v, h1, h2.mono s.pre e⟩
  · obtain ⟨p, h1, h2, h3, h4, h5⟩ := I.own i o h
    obtain ⟨u, hu⟩ := I.ok.dom p h2
    have q := s.keep p u hu h3
    refine ⟨p, h1, s.omono p h2, fun z => ?_, h4, ?_⟩
    · rcases s.lset p z with r | r
      · exact h3 r
      · rw [r] at hu; cases hu
    · rw [q]
      rw [hu] at h5
      exact h5.mono s.pre e
  · obtain ⟨a, d, P, vs, h1, h2, h3, h4, h5⟩ := I.pin i c fs h
    exact ⟨a, d, P, vs, h1, h2, h3, e _ _ h4, h5.mono s.pre e⟩
theorem set_get {α : Type} {l : List α} {i j : Nat} {x y : α} (h : (l.set i x)[j]? = some y) : (j = i ∧ y = x) ∨ (j ≠ i ∧ l[j]? = some y) := by
  by_cases e : j = i
  · subst e
    by_cases hl : j < l.length
    · rw [List.getElem?_set_self hl] at h
      exact .inl ⟨rfl, (Option.some.inj h).symm⟩
    · rw [List.getElem?_eq_none (by simpa using hl)] at h
      cases h
  · rw [List.getElem?_set_ne (Ne.symm e)] at h
    exact .inr ⟨e, h⟩
theorem get_lt {α : Type} {l : List α} {i : Nat} {y : α} (h : l[i]? = some y) : i < l.length := (List.getElem?_eq_some_iff.mp h).1
/-- a slot is stored -/
theorem FI.set {i : Nat} {x : PV} {v : V} (I : FI K G w ρ σ) (r : RV K w.L w.hc x v) : FI K G w (ρ.set i (.val x)) (σ.set i (some v)) := by
  refine ⟨I.gok, I.ok, I.stp, by simpa using I.len, fun j y h => ?_, fun j o h => ?_, fun j k oj ok' n h1 h2 => ?_, fun j c fs h => ?_⟩
  · rcases set_get h with ⟨rfl, e⟩ | ⟨n, h⟩
    · cases e
      refine ⟨v, ?_, r⟩
      have := get_lt h
      rw [List.getElem?_set_self (by rw [I.len]; simpa using this)]
    · obtain ⟨v', a, b⟩ := I.val j y h
      exact ⟨v', by rw [List.getElem?_set_ne (Ne.symm n)]; exact a, b⟩
  · rcases set_get h with ⟨rfl, e⟩ | ⟨n, h⟩
    · cases e
    · obtain ⟨p, a, b⟩ := I.own j o h
      exact ⟨p, by rw [List.getElem?_set_ne (Ne.symm n)]; exact a, b⟩
  · rcases set_get h1 with ⟨rfl, e⟩ | ⟨n1, h1⟩
    · cases e
    · rcases set_get h2 with ⟨rfl, e⟩ | ⟨n2, h2⟩
      · cases e
      · rw [List.getElem?_set_ne (Ne.symm n1), List.getElem?_set_ne (Ne.symm n2)]
        exact I.dis j k oj ok' n h1 h2
  · rcases set_get h with ⟨rfl, e⟩ | ⟨n, h⟩
    · cases e
    · obtain ⟨a, d, P, vs, h1, h2, h3⟩ := I.pin j c fs h
      exact ⟨a, d, P, vs, h1, by rw [List.getElem?_set_ne (Ne.symm n)]; exact h2, h3⟩
/-- a slot is forgotten -/
theorem FI.wipe1 {i : Nat} {v : Option V} (I : FI K G w ρ σ) : FI K G w (ρ.set i .none) (σ.set i v) := by
  refine ⟨I.gok, I.ok, I.stp, by simpa using I.len, fun j y h => ?_, fun j o h => ?_, fun j k oj ok' n h1 h2 => ?_, fun j c fs h => ?_⟩
  · rcases set_get h with ⟨rfl, e⟩ | ⟨n, h⟩
    · cases e
    · obtain ⟨v', a, b⟩ := I.val j y h
      exact ⟨v', by rw [List.getElem?_set_ne (Ne.symm n)]; exact a, b⟩
  · rcases set_get h with ⟨rfl, e⟩ | ⟨n, h⟩
    · cases e
    · obtain ⟨p, a, b⟩ := I.own j o h
      exact ⟨p, by rw [List.getElem?_set_ne (Ne.symm n)]; exact a, b⟩
  · rcases set_get h1 with ⟨rfl, e⟩ | ⟨n1, h1⟩
    · cases e
    · rcases set_get h2 with ⟨rfl, e⟩ | ⟨n2, h2⟩
      · cases e
      · rw [List.getElem?_set_ne (Ne.symm n1), List.getElem?_set_ne (Ne.symm n2)]
        exact I.dis j k oj ok' n h1 h2
  · rcases set_get h with ⟨rfl, e⟩ | ⟨n, h⟩
    · cases e
    · obtain ⟨a, d, P, vs, h1, h2, h3⟩ := I.pin j c fs h
      exact ⟨a, d, P, vs, h1, by rw [List.getElem?_set_ne (Ne.symm n)]; exact h2, h3⟩
end
end Mir
set_option maxHeartbeats 4000000
/-! Mir1: the judgements over mirrors, expressions. -/
namespace Mir
open PySem PySem.Spec PyProof.Rows L2

def Good {α : Type} (r : Res α) (ok : α → Store → Prop) (ex : Str → List (Str × PV) → Store → Prop) : Prop :=
  match r with
  | .ok a S => ok a S
  | .exc c fs S => ex c fs S
  | .bad => False
theorem Good.bind1 {α β : Type} {r : Res α} {f : α → Store → Res β} {ok ex} (h : Good (r.bind f) ok ex) : Good r (fun a S => Good (f a S) ok ex) ex := by
  cases r <;> exact h
/-- an end that is no good -/
theorem bind_bad {α β : Type} {r : Res α} {ok ex} (h : Good (r.bind fun _ _ => (Res.bad : Res β)) ok ex) (he : ∀ c fs S, ¬ ex c fs S := by intros; assumption) : False := by
  cases r with
  | ok a S => exact h
  | exc c fs S => exact he c fs S h
  | bad => exact h
theorem Good.imp {α : Type} {r : Res α} {ok ok' : α → Store → Prop} {ex ex'} (h : Good r ok ex) (h1 : ∀ a S, ok a S → ok' a S) (h2 : ∀ c fs S, ex c fs S → ex' c fs S) : Good r ok' ex' := by
  cases r with
  | ok a S => exact h1 a S h
  | exc c fs S => exact h2 c fs S h
  | bad => exact h
theorem Good.nox {α : Type} {r : Res α} {ok : α → Store → Prop} {ex ex'} (h : Good r.nox ok ex) : Good r ok ex' := by
  cases r with
  | ok a S => exact h
  | exc c fs S => exact h.elim
  | bad => exact h

section
variable (K : PySem.W.Frag) (mg : Str → Option Value)
def PostV (w : Wd) (Q : VK) : PV → Store → Prop := fun x S' => ∀ w' v, w'.S = S' → WStep w w' → WOk K w' → RV K w'.L w'.hc x v → Q v w'.H
def PostB (w : Wd) (Q : Bool → Hp → Prop) : Bool → Store → Prop := fun b S' => ∀ w', w'.S = S' → WStep w w' → WOk K w' → Q b w'.H
def PostA (w : Wd) (Q : List V → Hp → Prop) : List PV → Store → Prop := fun xs S' => ∀ w' vs, w'.S = S' → WStep w w' → WOk K w' → RVs K w'.L w'.hc xs vs → Q vs w'.H
def PostO (w : Wd) (Q : Option Int → Hp → Prop) : Option Int → Store → Prop := fun o S' => ∀ w', w'.S = S' → WStep w w' → WOk K w' → Q o w'.H
/-- a new object at p -/
def PostN (w : Wd) (Q : VK) : SO → Store → Prop := fun o S' => ∀ w' p, w'.S = S' → WStep w w' → WOk K w' → w.H p = none → p ∈ w'.O → p ∉ w'.L → SOk K w'.L w'.hc (w'.H p) o → Q (.ref p) w'.H
def ExP (E : XK) (w : Wd) : Str → List (Str × PV) → Store → Prop := fun c fs S' => ∀ w' C d vs, w'.S = S' → WStep w w' → WOk K w' → mg c = some (Value.ref C) → w'.hc d = some (.xd vs) → RF K w'.L w'.hc fs vs → E (.ref C) (some d) w'.H
end
section
variable {K : PySem.W.Frag} {mg : Str → Option Value} {w w1 : Wd} {Q : VK} {E : XK} {S : Store}
theorem PostV.step {x : PV} (s : WStep w w1) (k : WOk K w) (k1 : WOk K w1) (h : PostV K w Q x S) : PostV K w1 Q x S := fun w' v e s' k' r => h w' v e (s.tr s' k k1) k' r
theorem PostB.step {Q : Bool → Hp → Prop} {x : Bool} (s : WStep w w1) (k : WOk K w) (k1 : WOk K w1) (h : PostB K w Q x S) : PostB K w1 Q x S := fun w' e s' k' => h w' e (s.tr s' k k1) k'
theorem PostA.step {Q : List V → Hp → Prop} {x : List PV} (s : WStep w w1) (k : WOk K w) (k1 : WOk K w1) (h : PostA K w Q x S) : PostA K w1 Q x S := fun w' v e s' k' r => h w' v e (s.tr s' k k1) k' r
theorem PostN.step {x : SO} (s : WStep w w1) (k : WOk K w) (k1 : WOk K w1) (h : PostN K w Q x S) : PostN K w1 Q x S := fun w' p e s' k' n => h w' p e (s.tr s' k k1) k' (by
  cases q : w.H p with
  | none => rfl
  | some o =>
    by_cases z : p ∈ w.L
    · have := s.pre.subset z
      exact absurd this (k1.ninL n)
    · rw [s.keep p o q z] at n; cases n)
theorem ExP.step {c fs} (s : WStep w w1) (k : WOk K w) (k1 : WOk K w1) (h : ExP K mg E w c fs S) : ExP K mg E w1 c fs S := fun w' C d vs e s' k' => h w' C d vs e (s.tr s' k k1) k'
end

abbrev Fe := Rho → Store → Res PV
/-- what is wished for an exception, by the slots -/
abbrev EK := L2.St → XK
section
variable (K : PySem.W.Frag) (mg : Str → Option Value) (G : Wd) (E : EK)
def ESim (te : TE) (f : Rho → Store → Res PV) : Prop := ∀ w ρ σ Q, FI K G w ρ σ → Good (f ρ w.S) (PostV K w Q) (ExP K mg (E σ) w) → te σ w.H Q
def TSim (tt : TT) (f : Rho → Store → Res Bool) : Prop := ∀ w ρ σ Q, FI K G w ρ σ → Good (f ρ w.S) (PostB K w Q) (ExP K mg (E σ) w) → tt σ w.H Q
def ASim (ta : TA) (f : Rho → Store → Res (List PV)) : Prop := ∀ w ρ σ Q, FI K G w ρ σ → Good (f ρ w.S) (PostA K w Q) (ExP K mg (E σ) w) → ta σ w.H Q
def OSim (to : TO) (f : Rho → Store → Res (Option Int)) : Prop := ∀ w ρ σ Q, FI K G w ρ σ → Good (f ρ w.S) (PostO K w Q) (ExP K mg (E σ) w) → to σ w.H Q
def NSim (te : TE) (f : Rho → Store → Res SO) : Prop := ∀ w ρ σ Q, FI K G w ρ σ → Good (f ρ w.S) (PostN K w Q) (ExP K mg (E σ) w) → te σ w.H Q
end
section
variable (K : PySem.W.Frag) (mg : Str → Option Value) (G : Wd) (E : XK)
/-- an operator on values -/
def R2Sim (r : R2) (g : PV → PV → Store → Res PV) : Prop := ∀ w x y v u Q, WOk K w → RV K w.L w.hc x v → RV K w.L w.hc y u → Good (g x y w.S) (PostV K w Q) (ExP K mg E w) → r v u w.H Q
def R2N (r : R2) (g : PV → PV → Store → Res SO) : Prop := ∀ w x y v u Q, WOk K w → RV K w.L w.hc x v → RV K w.L w.hc y u → Good (g x y w.S) (PostN K w Q) (ExP K mg E w) → r v u w.H Q
def R1Sim (r : V → Hp → VK → Prop) (g : PV → Store → Res PV) : Prop := ∀ w x v Q, WOk K w → RV K w.L w.hc x v → Good (g x w.S) (PostV K w Q) (ExP K mg E w) → r v w.H Q
def RASim (r : List V → Hp → VK → Prop) (g : List PV → Store → Res PV) : Prop := ∀ w xs vs Q, WOk K w → RVs K w.L w.hc xs vs → Good (g xs w.S) (PostV K w Q) (ExP K mg E w) → r vs w.H Q
def RAN (r : List V → Hp → VK → Prop) (g : List PV → Store → Res SO) : Prop := ∀ w xs vs Q, WOk K w → RVs K w.L w.hc xs vs → Good (g xs w.S) (PostN K w Q) (ExP K mg E w) → r vs w.H Q
end
variable (X : Cx) (G : Wd) (E : EK) in
structure FE (e : Expr) (te : TE) (f : Rho → Store → Res PV) : Prop where
  pe : PE X e te
  sim : ESim X.K X.mg G E te f
variable (X : Cx) (G : Wd) (E : EK) in
structure FN (e : Expr) (te : TE) (f : Rho → Store → Res SO) : Prop where
  pe : PE X e te
  sim : NSim X.K X.mg G E te f
variable (X : Cx) (G : Wd) (E : EK) in
structure FT (e : Expr) (te : TT) (f : Rho → Store → Res Bool) : Prop where
  pe : PT X e te
  sim : TSim X.K X.mg G E te f
variable (X : Cx) (G : Wd) (E : EK) in
structure FW (e : Expr) (te : TT) (f : Rho → Store → Res Bool) : Prop where
  pe : PW X e te
  sim : TSim X.K X.mg G E te f
variable (X : Cx) (G : Wd) (E : EK) in
structure FA (es : List Expr) (te : TA) (f : Rho → Store → Res (List PV)) : Prop where
  pe : PA X es te
  sim : ASim X.K X.mg G E te f
variable (X : Cx) (G : Wd) (E : EK) in
structure FK (es : List Keyword) (te : TA) (f : Rho → Store → Res (List PV)) : Prop where
  pe : PK X es te
  sim : ASim X.K X.mg G E te f
variable (X : Cx) (G : Wd) (E : EK) in
structure FO (e : Option Expr) (te : TO) (f : Rho → Store → Res (Option Int)) : Prop where
  pe : PO X e te
  sim : OSim X.K X.mg G E te f

/-! ### mirrors of expressions -/
def mVar (i : Nat) : Rho → Store → Res PV := fun ρ S => match ρ[i]? with
  | some (.val x) => .ok x S
  | _ => .bad
def mC (x : PV) : Rho → Store → Res PV := fun _ S => .ok x S
def mOp {α : Type} (g : PV → PV → Store → Res α) (a b : Rho → Store → Res PV) : Rho → Store → Res α := fun ρ S => (a ρ S).bind fun x S1 => (b ρ S1).bind fun y S2 => g x y S2
def mUn {α : Type} (g : PV → Store → Res α) (a : Rho → Store → Res PV) : Rho → Store → Res α := fun ρ S => (a ρ S).bind g
def mArgs {α : Type} (g : List PV → Store → Res α) (a : Rho → Store → Res (List PV)) : Rho → Store → Res α := fun ρ S => (a ρ S).bind g
def mNil : Rho → Store → Res (List PV) := fun _ S => .ok [] S
def mCons (a : Rho → Store → Res PV) (t : Rho → Store → Res (List PV)) : Rho → Store → Res (List PV) := fun ρ S => (a ρ S).bind fun x S1 => (t ρ S1).bind fun xs S2 => .ok (x :: xs) S2
def frz : SO → PV
  | .lst xs => .lst xs
  | .dk ks xs => .dk ks xs
  | .ins c ns xs => .ins c ns xs
def mFrz (a : Rho → Store → Res SO) : Rho → Store → Res PV := fun ρ S => (a ρ S).bind fun o S1 => .ok (frz o) S1
def toB : PV → Store → Res Bool
  | .bl b, S => .ok b S
  | _, _ => .bad
def mB (a : Rho → Store → Res PV) : Rho → Store → Res Bool := fun ρ S => (a ρ S).bind toB
def mAnd (a b : Rho → Store → Res Bool) : Rho → Store → Res Bool := fun ρ S => (a ρ S).bind fun c S1 => if c then b ρ S1 else .ok false S1
def mOr (a b : Rho → Store → Res Bool) : Rho → Store → Res Bool := fun ρ S => (a ρ S).bind fun c S1 => if c then .ok true S1 else b ρ S1
def mNot (a : Rho → Store → Res Bool) : Rho → Store → Res Bool := fun ρ S => (a ρ S).bind fun c S1 => .ok (!c) S1
/-- a bool as a value -/
def mBV (a : Rho → Store → Res Bool) : Rho → Store → Res PV := fun ρ S => (a ρ S).bind fun c S1 => .ok (.bl c) S1
def mIf {α : Type} (t : Rho → Store → Res Bool) (a b : Rho → Store → Res α) : Rho → Store → Res α := fun ρ S => (t ρ S).bind fun c S1 => if c then a ρ S1 else b ρ S1

/-! ### freezing -/
section
variable {K : PySem.W.Frag} {w w' : Wd} {p : Addr} {o : SO}
def Wd.freeze (w : Wd) (p : Addr) : Wd := { w with O := w.O.filter fun a => !decide (a = p) }
theorem freeze_O {a : Addr} : a ∈ (w.freeze p).O ↔ a ∈ w.O ∧ a ≠ p := by
  unfold Wd.freeze
  simp [List.mem_filter]
theorem freeze_ext : ∀ a o, w.hc a = some o → (w.freeze p).hc a = some o := fun a o h => by
  obtain ⟨h1, h2⟩ := cut_some h
  show cut _ _ _ = _
  rw [cut_out fun z => h1 (freeze_O.mp z).1]
  exact h2
theorem freeze_at : (w.freeze p).hc p = w.H p := by
  show cut _ _ _ = _
  rw [cut_out fun z => (freeze_O.mp z).2 rfl]
  rfl
theorem freeze_ok (k : WOk K w) (hl : p ∉ w.L) : WOk K (w.freeze p) :=
  ⟨fun a h => freeze_O.mpr ⟨k.sub a h, fun e => hl (e ▸ h)⟩, k.nd, k.len, fun n o a h1 h2 => (k.st n o a h1 h2).mono (List.prefix_refl _) freeze_ext, fun a h => k.dom a (freeze_O.mp h).1⟩
theorem freeze_step {w0 : Wd} (s : WStep w0 w) (hn : p ∉ w0.O) : WStep w0 (w.freeze p) :=
  ⟨s.pre, s.keep, fun a h => freeze_O.mpr ⟨s.omono a h, fun e => hn (e ▸ h)⟩, fun a h => s.oset a (freeze_O.mp h).1, s.lset⟩
theorem freeze_rv (h : SOk K w.L w.hc (w.H p) o) : RV K (w.freeze p).L (w.freeze p).hc (frz o) (.ref p) := by
  cases o with
  | lst xs =>
    obtain ⟨vs, h1, h2⟩ := h
    exact ⟨p, vs, rfl, by rw [freeze_at]; exact h1, h2.mono (List.prefix_refl _) freeze_ext⟩
  | dk ks xs =>
    obtain ⟨vs, h1, h3, h2⟩ := h
    exact ⟨p, vs, rfl, by rw [freeze_at]; exact h1, h3, h2.mono (List.prefix_refl _) freeze_ext⟩
  | ins c ns xs =>
    obtain ⟨dx, vs, h1, h3, h2⟩ := h
    exact ⟨p, dx, vs, rfl, by rw [freeze_at]; exact h1, h3, h2.mono (List.prefix_refl _) freeze_ext⟩
end

/-! ### rules -/
section
variable {X : Cx} {G : Wd} {E : EK}
theorem FT.ofW {e te f} (h : FW X G E e te f) : FT X G E e te f := ⟨h.pe.pt, h.sim⟩
theorem fe_var {i : Nat} {x : Str} {pos : Pos} (h : PE X (.Name x pos) (tVar i)) : FE X G E (.Name x pos) (tVar i) (mVar i) := ⟨h, fun w ρ σ Q I h => by
  unfold mVar at h
  cases q : ρ[i]? with
  | none => rw [q] at h; exact h.elim
  | some s =>
    rw [q] at h
    cases s with
    | none => exact h.elim
    | own o => exact h.elim
    | pin c fs => exact h.elim
    | val x =>
      obtain ⟨v, e, r⟩ := I.val i x q
      exact ⟨v, e, h w v rfl (WStep.refl I.ok.sub) I.ok r⟩⟩
theorem sim_c {K mg G E} {x : PV} {v : V} (r : ∀ L Hc, RV K L Hc x v) : ESim K mg G E (tC v) (mC x) := fun w ρ σ Q I h => h w v rfl (WStep.refl I.ok.sub) I.ok (r _ _)
theorem fe_int {i j pos} : FE X G E (.Constant (.int i) j pos) (tC (.int i)) (mC (.int i)) := ⟨pe_int, sim_c fun _ _ => rfl⟩
theorem fe_bl {b j pos} : FE X G E (.Constant (.bool b) j pos) (tC (.bl b)) (mC (.bl b)) := ⟨pe_bl, sim_c fun _ _ => rfl⟩
theorem fe_non {j pos} : FE X G E (.Constant .none j pos) (tC .non) (mC .non) := ⟨pe_non, sim_c fun _ _ => rfl⟩
theorem fe_str {x j pos} : FE X G E (.Constant (.str x) j pos) (tC (.str x)) (mC (.str x)) := ⟨pe_str, sim_c fun _ _ => rfl⟩
/-- a module's constant -/
theorem fe_glob {x : Str} {y : PV} {v : V} {u : Value} {pos : Pos} (hg : Gl X x) (hm : X.mg x = some u) (r : RelV v u) (hy : ∀ L Hc, RV X.K L Hc y v) (hd : (x == ("__debug__" : Str)) = false := by decide) : FE X G E (.Name x pos) (tC v) (mC y) :=
  ⟨pe_glob hg hm r hd, sim_c hy⟩

theorem sim_bin {K mg G E} {ta tb : TE} {fa fb} (ha : ESim K mg G E ta fa) (hb : ESim K mg G E tb fb) {w ρ σ} (I : FI K G w ρ σ) {α : Type} {g : PV → PV → Store → Res α} {ok : α → Store → Prop} {R : V → V → Hp → Prop}
    (h : Good (mOp g fa fb ρ w.S) ok (ExP K mg (E σ) w))
    (hr : ∀ w2 x y v u, WStep w w2 → WOk K w2 → RV K w2.L w2.hc x v → RV K w2.L w2.hc y u → Good (g x y w2.S) ok (ExP K mg (E σ) w) → R v u w2.H) : ta σ w.H fun v H1 => tb σ H1 fun u H2 => R v u H2 := by
  refine ha w ρ σ _ I (Good.imp (Good.bind1 h) (fun x S1 h1 => ?_) fun _ _ _ h => h)
  intro w1 v e1 s1 k1 r1
  subst e1
  have I1 := I.step s1 k1
  refine hb w1 ρ σ _ I1 (Good.imp (Good.bind1 h1) (fun y S2 h2 => ?_) fun _ _ _ h => h.step s1 I.ok k1)
  intro w2 u e2 s2 k2 r2
  subst e2
  exact hr w2 x y v u (s1.tr s2 I.ok k1) k2 (r1.mono s2.pre (s2.ext k1.sub)) r2 h2
theorem sim_op {K mg G E} {ta tb : TE} {fa fb} {r : R2} {g} (ha : ESim K mg G E ta fa) (hb : ESim K mg G E tb fb) (hr : ∀ σ, R2Sim K mg (E σ) r g) : ESim K mg G E (tOp r ta tb) (mOp g fa fb) := fun w ρ σ Q I h =>
  sim_bin ha hb I h fun w2 x y v u s k rx ry h2 => hr σ w2 x y v u Q k rx ry (Good.imp h2 (fun _ _ h => h.step s I.ok k) fun _ _ _ h => h.step s I.ok k)
theorem sim_opN {K mg G E} {ta tb : TE} {fa fb} {r : R2} {g} (ha : ESim K mg G E ta fa) (hb : ESim K mg G E tb fb) (hr : ∀ σ, R2N K mg (E σ) r g) : NSim K mg G E (tOp r ta tb) (mOp g fa fb) := fun w ρ σ Q I h =>
  sim_bin ha hb I h fun w2 x y v u s k rx ry h2 => hr σ w2 x y v u Q k rx ry (Good.imp h2 (fun _ _ h => h.step s I.ok k) fun _ _ _ h => h.step s I.ok k)
theorem sim_un {K mg G E} {ta : TE} {fa} {r : V → Hp → VK → Prop} {g} (ha : ESim K mg G E ta fa) (hr : ∀ σ, R1Sim K mg (E σ) r g) : ESim K mg G E (tUn r ta) (mUn g fa) := fun w ρ σ Q I h => by
  refine ha w ρ σ _ I (Good.imp (Good.bind1 h) (fun x S1 h1 => ?_) fun _ _ _ h => h)
  intro w1 v e1 s1 k1 r1
  subst e1
  exact hr σ w1 x v Q k1 r1 (Good.imp h1 (fun _ _ h => h.step s1 I.ok k1) fun _ _ _ h => h.step s1 I.ok k1)
theorem fe_op {op a b pos ta tb fa fb} {r : R2} {g} (ho : OpR X (binaryOp op) r) (hr : ∀ σ, R2Sim X.K X.mg (E σ) r g) (ha : FE X G E a ta fa) (hb : FE X G E b tb fb) : FE X G E (.BinOp a op b pos) (tOp r ta tb) (mOp g fa fb) :=
  ⟨pe_op ho ha.pe hb.pe, sim_op ha.sim hb.sim hr⟩
theorem fn_op {op a b pos ta tb fa fb} {r : R2} {g} (ho : OpR X (binaryOp op) r) (hr : ∀ σ, R2N X.K X.mg (E σ) r g) (ha : FE X G E a ta fa) (hb : FE X G E b tb fb) : FN X G E (.BinOp a op b pos) (tOp r ta tb) (mOp g fa fb) :=
  ⟨pe_op ho ha.pe hb.pe, sim_opN ha.sim hb.sim hr⟩
theorem fe_un {op a pos ta fa} {r : V → Hp → VK → Prop} {g} (ho : UnR X (unaryOp op) r) (hr : ∀ σ, R1Sim X.K X.mg (E σ) r g) (ha : FE X G E a ta fa) : FE X G E (.UnaryOp op a pos) (tUn r ta) (mUn g fa) :=
  ⟨pe_un ho ha.pe, sim_un ha.sim hr⟩
theorem fe_cmp {op a b pos ta tb fa fb} {r : R2} {g} (ho : OpR X (compareOp op) r) (hr : ∀ σ, R2Sim X.K X.mg (E σ) r g) (ha : FE X G E a ta fa) (hb : FE X G E b tb fb) (hm : behindInMarks op b = false := by first | exact nobehind _ (by decide) (by decide) | rfl) :
    FE X G E (.Compare a [op] [b] pos) (tOp r ta tb) (mOp g fa fb) := ⟨pe_cmpR ho ha.pe hb.pe hm, sim_op ha.sim hb.sim hr⟩
theorem sim_test {K mg G E} {te : TE} {f} (h : ESim K mg G E te f) : TSim K mg G E (tTest te) (mB f) := fun w ρ σ Q I g => by
  refine h w ρ σ _ I (Good.imp (Good.bind1 g) (fun x S1 h1 => ?_) fun _ _ _ h => h)
  intro w1 v e1 s1 k1 r1
  subst e1
  cases x <;> first | exact h1.elim | skip
  rename_i b
  exact ⟨b, r1, h1 w1 rfl s1 k1⟩
theorem ft_cmp {op a b pos ta tb fa fb} {r : R2} {g} (ho : OpR X (compareOp op) r) (hr : ∀ σ, R2Sim X.K X.mg (E σ) r g) (ha : FE X G E a ta fa) (hb : FE X G E b tb fb) (hm : behindInMarks op b = false := by first | exact nobehind _ (by decide) (by decide) | rfl) :
    FT X G E (.Compare a [op] [b] pos) (tTest (tOp r ta tb)) (mB (mOp g fa fb)) := ⟨pt_cmpR ho ha.pe hb.pe hm, sim_test (sim_op ha.sim hb.sim hr)⟩
/-- a chain a < b < c -/
def mChain (g g' : PV → PV → Store → Res PV) (a b c : Rho → Store → Res PV) : Rho → Store → Res PV := fun ρ S => (a ρ S).bind fun x S1 => (b ρ S1).bind fun y S2 => (g x y S2).bind fun z S3 => (toB z S3).bind fun k S4 => if k then (c ρ S4).bind fun u S5 => g' y u S5 else .ok (.bl false) S4
theorem sim_chain {K mg G E} {ta tb tc : TE} {fa fb fc} {r r' : R2} {g g'} (ha : ESim K mg G E ta fa) (hb : ESim K mg G E tb fb) (hc : ESim K mg G E tc fc) (hr : ∀ σ, R2Sim K mg (E σ) r g) (hr' : ∀ σ, R2Sim K mg (E σ) r' g') : ESim K mg G E (tChain r r' ta tb tc) (mChain g g' fa fb fc) := fun w ρ σ Q I h => by
  refine ha w ρ σ _ I (Good.imp (Good.bind1 h) (fun x S1 h1 => ?_) fun _ _ _ h => h)
  intro w1 v e1 s1 k1 r1
  subst e1
  have I1 := I.step s1 k1
  refine hb w1 ρ σ _ I1 (Good.imp (Good.bind1 h1) (fun y S2 h2 => ?_) fun _ _ _ h => h.step s1 I.ok k1)
  intro w2 u e2 s2 k2 r2
  subst e2
  have I2 := I1.step s2 k2
  have s12 := s1.tr s2 I.ok k1
  refine hr σ w2 x y v u _ k2 (r1.mono s2.pre (s2.ext k1.sub)) r2 (Good.imp (Good.bind1 h2) (fun z S3 h3 => ?_) fun _ _ _ h => h.step s12 I.ok k2)
  intro w3 vz e3 s3 k3 r3
  subst e3
  have I3 := I2.step s3 k3
  have s13 := s12.tr s3 I.ok k2
  cases z <;> first | exact h3.elim | skip
  rename_i b
  refine ⟨b, r3, ?_⟩
  have h3 : Good (if b then (fc ρ w3.S).bind fun u S5 => g' y u S5 else .ok (.bl false) w3.S) (PostV K w Q) (ExP K mg (E σ) w) := h3
  cases b with
  | false =>
    rw [if_neg Bool.false_ne_true] at h3 ⊢
    exact h3 w3 (.bl false) rfl s13 k3 rfl
  | true =>
    rw [if_pos rfl] at h3 ⊢
    refine hc w3 ρ σ _ I3 (Good.imp (Good.bind1 h3) (fun c S5 h5 => ?_) fun _ _ _ h => h.step s13 I.ok k3)
    intro w4 vc e4 s4 k4 r4
    subst e4
    have s14 := s13.tr s4 I.ok k3
    exact hr' σ w4 y c u vc _ k4 (r2.mono (s3.pre.trans s4.pre) fun a o q => s4.ext k3.sub a o (s3.ext k2.sub a o q)) r4 (Good.imp h5 (fun _ _ h => h.step s14 I.ok k4) fun _ _ _ h => h.step s14 I.ok k4)
theorem fe_chain {op op' a b c pos ta tb tc fa fb fc} {r r' : R2} {g g'} (ho : OpR X (compareOp op) r) (ho' : OpR X (compareOp op') r') (hr : ∀ σ, R2Sim X.K X.mg (E σ) r g) (hr' : ∀ σ, R2Sim X.K X.mg (E σ) r' g') (ha : FE X G E a ta fa) (hb : FE X G E b tb fb) (hc : FE X G E c tc fc) (hm : lastMarks [op, op'] [b, c] = false := by rfl) :
    FE X G E (.Compare a [op, op'] [b, c] pos) (tChain r r' ta tb tc) (mChain g g' fa fb fc) := ⟨pe_chain ho ho' ha.pe hb.pe hc.pe (hm := hm), sim_chain ha.sim hb.sim hc.sim hr hr'⟩
theorem ft_chain {op op' a b c pos ta tb tc fa fb fc} {r r' : R2} {g g'} (ho : OpR X (compareOp op) r) (ho' : OpR X (compareOp op') r') (hr : ∀ σ, R2Sim X.K X.mg (E σ) r g) (hr' : ∀ σ, R2Sim X.K X.mg (E σ) r' g') (ha : FE X G E a ta fa) (hb : FE X G E b tb fb) (hc : FE X G E c tc fc) (hm : lastMarks [op, op'] [b, c] = false := by rfl) :
    FT X G E (.Compare a [op, op'] [b, c] pos) (tTest (tChain r r' ta tb tc)) (mB (mChain g g' fa fb fc)) := ⟨pt_chain ho ho' ha.pe hb.pe hc.pe (hm := hm), sim_test (sim_chain ha.sim hb.sim hc.sim hr hr')⟩
/-- a value that is a bool, as a test -/
theorem ft_val {e te f} (h : FE X G E e te f) (he : ∀ whole, isTrue e X.env whole = (do let v ← whole; standAt e.pos; holding [v] (truthy v)) := by intro _; rfl) : FT X G E e (tB te) (mB f) := ⟨pt_val h.pe he, sim_test h.sim⟩

theorem sim_and {K mg G E} {t u : TT} {f g} (ha : TSim K mg G E t f) (hb : TSim K mg G E u g) : TSim K mg G E (tAnd t u) (mAnd f g) := fun w ρ σ Q I h => by
  refine ha w ρ σ _ I (Good.imp (Good.bind1 h) (fun c S1 h1 => ?_) fun _ _ _ h => h)
  intro w1 e1 s1 k1
  subst e1
  have h1 : Good (if c then g ρ w1.S else .ok false w1.S) (PostB K w Q) (ExP K mg (E σ) w) := h1
  cases c with
  | true =>
    rw [if_pos rfl] at h1 ⊢
    exact hb w1 ρ σ Q (I.step s1 k1) (Good.imp h1 (fun _ _ h => h.step s1 I.ok k1) fun _ _ _ h => h.step s1 I.ok k1)
  | false =>
    rw [if_neg Bool.false_ne_true] at h1 ⊢
    exact h1 w1 rfl s1 k1
theorem sim_or {K mg G E} {t u : TT} {f g} (ha : TSim K mg G E t f) (hb : TSim K mg G E u g) : TSim K mg G E (tOr t u) (mOr f g) := fun w ρ σ Q I h => by
  refine ha w ρ σ _ I (Good.imp (Good.bind1 h) (fun c S1 h1 => ?_) fun _ _ _ h => h)
  intro w1 e1 s1 k1
  subst e1
  have h1 : Good (if c then .ok true w1.S else g ρ w1.S) (PostB K w Q) (ExP K mg (E σ) w) := h1
  cases c with
  | false =>
    rw [if_neg Bool.false_ne_true] at h1 ⊢
    exact hb w1 ρ σ Q (I.step s1 k1) (Good.imp h1 (fun _ _ h => h.step s1 I.ok k1) fun _ _ _ h => h.step s1 I.ok k1)
  | true =>
    rw [if_pos rfl] at h1 ⊢
    exact h1 w1 rfl s1 k1
theorem fw_and1 {a pos t f} (h : FT X G E a t f) : FW X G E (.BoolOp .And [a] pos) t f := ⟨pw_and1 h.pe, h.sim⟩
theorem fw_or1 {a pos t f} (h : FT X G E a t f) : FW X G E (.BoolOp .Or [a] pos) t f := ⟨pw_or1 h.pe, h.sim⟩
theorem fw_and {a b rest pos t u f g} (ha : FT X G E a t f) (hb : FW X G E (.BoolOp .And (b :: rest) pos) u g) : FW X G E (.BoolOp .And (a :: b :: rest) pos) (tAnd t u) (mAnd f g) := ⟨pw_and ha.pe hb.pe, sim_and ha.sim hb.sim⟩
theorem fw_or {a b rest pos t u f g} (ha : FT X G E a t f) (hb : FW X G E (.BoolOp .Or (b :: rest) pos) u g) : FW X G E (.BoolOp .Or (a :: b :: rest) pos) (tOr t u) (mOr f g) := ⟨pw_or ha.pe hb.pe, sim_or ha.sim hb.sim⟩
theorem ft_not {a pos t f} (h : FT X G E a t f) : FT X G E (.UnaryOp .Not a pos) (tNot t) (mNot f) := ⟨pt_not h.pe, fun w ρ σ Q I g => by
  refine h.sim w ρ σ _ I (Good.imp (Good.bind1 g) (fun c S1 h1 => ?_) fun _ _ _ h => h)
  intro w1 e1 s1 k1
  subst e1
  exact h1 w1 rfl s1 k1⟩
/-- and, or, not as values (bools) -/
def mAndV (a b : Rho → Store → Res PV) : Rho → Store → Res PV := fun ρ S => (mB a ρ S).bind fun c S1 => if c then b ρ S1 else .ok (.bl false) S1
def mOrV (a b : Rho → Store → Res PV) : Rho → Store → Res PV := fun ρ S => (mB a ρ S).bind fun c S1 => if c then .ok (.bl true) S1 else b ρ S1
def mNotV (a : Rho → Store → Res PV) : Rho → Store → Res PV := fun ρ S => (mB a ρ S).bind fun c S1 => .ok (.bl (!c)) S1
theorem sim_boolV {K mg G E} {ta : TE} {fa} (ha : ESim K mg G E ta fa) {w ρ σ} (I : FI K G w ρ σ) {α : Type} {k : Bool → Store → Res α} {ok : α → Store → Prop} {R : V → Hp → Prop} (h : Good ((mB fa ρ w.S).bind k) ok (ExP K mg (E σ) w))
    (hr : ∀ w1 c, WStep w w1 → WOk K w1 → Good (k c w1.S) ok (ExP K mg (E σ) w) → R (.bl c) w1.H) : ta σ w.H R := by
  have h' : Good (fa ρ w.S) (fun x S => Good ((toB x S).bind k) ok (ExP K mg (E σ) w)) (ExP K mg (E σ) w) := by
    have h2 := Good.bind1 h
    have h3 := Good.bind1 h2
    refine Good.imp h3 (fun x S q => ?_) fun _ _ _ h => h
    cases x <;> first | exact q.elim | exact q
  refine ha w ρ σ _ I (Good.imp h' (fun x S1 h1 => ?_) fun _ _ _ h => h)
  intro w1 v e1 s1 k1 r1
  subst e1
  cases x <;> first | exact h1.elim | skip
  rename_i b
  have r1 : v = .bl b := r1
  subst r1
  exact hr w1 b s1 k1 h1
theorem fe_one {op a pos t f} (h : FE X G E a t f) : FE X G E (.BoolOp op [a] pos) t f := ⟨pe_one h.pe, h.sim⟩
theorem fe_and {a b rest pos t u f g} (ha : FE X G E a t f) (hb : FE X G E (.BoolOp .And (b :: rest) pos) u g) : FE X G E (.BoolOp .And (a :: b :: rest) pos) (tAndV t u) (mAndV f g) := ⟨pe_and ha.pe hb.pe, fun w ρ σ Q I h => by
  refine sim_boolV ha.sim I h fun w1 c s1 k1 h1 => ⟨c, rfl, ?_⟩
  cases c with
  | true =>
    rw [if_pos rfl] at h1 ⊢
    exact hb.sim w1 ρ σ Q (I.step s1 k1) (Good.imp h1 (fun _ _ h => h.step s1 I.ok k1) fun _ _ _ h => h.step s1 I.ok k1)
  | false =>
    rw [if_neg Bool.false_ne_true] at h1 ⊢
    exact h1 w1 (.bl false) rfl s1 k1 rfl⟩
theorem fe_or {a b rest pos t u f g} (ha : FE X G E a t f) (hb : FE X G E (.BoolOp .Or (b :: rest) pos) u g) : FE X G E (.BoolOp .Or (a :: b :: rest) pos) (tOrV t u) (mOrV f g) := ⟨pe_or ha.pe hb.pe, fun w ρ σ Q I h => by
  refine sim_boolV ha.sim I h fun w1 c s1 k1 h1 => ⟨c, rfl, ?_⟩
  cases c with
  | false =>
    rw [if_neg Bool.false_ne_true] at h1 ⊢
    exact hb.sim w1 ρ σ Q (I.step s1 k1) (Good.imp h1 (fun _ _ h => h.step s1 I.ok k1) fun _ _ _ h => h.step s1 I.ok k1)
  | true =>
    rw [if_pos rfl] at h1 ⊢
    exact h1 w1 (.bl true) rfl s1 k1 rfl⟩
theorem fe_not {a pos t f} (ha : FE X G E a t f) : FE X G E (.UnaryOp .Not a pos) (tNotV t) (mNotV f) := ⟨pe_not ha.pe, fun w ρ σ Q I h => sim_boolV ha.sim I h fun w1 c s1 k1 h1 => ⟨c, rfl, h1 w1 (.bl (!c)) rfl s1 k1 rfl⟩⟩
theorem fe_ifExp {c a b pos tt ta tb fc fa fb} (hc : FT X G E c tt fc) (ha : FE X G E a ta fa) (hb : FE X G E b tb fb) : FE X G E (.IfExp c a b pos) (tIf tt ta tb) (mIf fc fa fb) := ⟨pe_ifExp hc.pe ha.pe hb.pe, fun w ρ σ Q I h => by
  refine hc.sim w ρ σ _ I (Good.imp (Good.bind1 h) (fun c S1 h1 => ?_) fun _ _ _ h => h)
  intro w1 e1 s1 k1
  subst e1
  have h1 : Good (if c then fa ρ w1.S else fb ρ w1.S) (PostV X.K w Q) (ExP X.K X.mg (E σ) w) := h1
  cases c with
  | true =>
    rw [if_pos rfl] at h1 ⊢
    exact ha.sim w1 ρ σ Q (I.step s1 k1) (Good.imp h1 (fun _ _ h => h.step s1 I.ok k1) fun _ _ _ h => h.step s1 I.ok k1)
  | false =>
    rw [if_neg Bool.false_ne_true] at h1 ⊢
    exact hb.sim w1 ρ σ Q (I.step s1 k1) (Good.imp h1 (fun _ _ h => h.step s1 I.ok k1) fun _ _ _ h => h.step s1 I.ok k1)⟩

/-! arguments, displays -/
theorem fa_nil : FA X G E [] tNil mNil := ⟨pa_nil, fun w ρ σ Q I h => h w [] rfl (WStep.refl I.ok.sub) I.ok rfl⟩
theorem sim_cons {K mg G E} {te : TE} {t : TA} {f g} (ha : ESim K mg G E te f) (hr : ASim K mg G E t g) : ASim K mg G E (tCons te t) (mCons f g) := fun w ρ σ Q I h => by
  refine ha w ρ σ _ I (Good.imp (Good.bind1 h) (fun x S1 h1 => ?_) fun _ _ _ h => h)
  intro w1 v e1 s1 k1 r1
  subst e1
  refine hr w1 ρ σ _ (I.step s1 k1) (Good.imp (Good.bind1 h1) (fun xs S2 h2 => ?_) fun _ _ _ h => h.step s1 I.ok k1)
  intro w2 vs e2 s2 k2 r2
  subst e2
  exact h2 w2 (v :: vs) rfl (s1.tr s2 I.ok k1) k2 (RVs.cons (r1.mono s2.pre (s2.ext k1.sub)) r2)
theorem fa_cons {e es te t f g} (ha : FE X G E e te f) (hr : FA X G E es t g) (hs : starEach (e :: es) X.env = (false, eval e X.env) :: starEach es X.env := by rfl) : FA X G E (e :: es) (tCons te t) (mCons f g) := ⟨pa_cons ha.pe hr.pe hs, sim_cons ha.sim hr.sim⟩
theorem fk_nil : FK X G E [] tNil mNil := ⟨pk_nil, fun w ρ σ Q I h => h w [] rfl (WStep.refl I.ok.sub) I.ok rfl⟩
theorem fk_cons {nm e kpos es te t f g} (ha : FE X G E e te f) (hr : FK X G E es t g) : FK X G E (⟨nm, e, kpos⟩ :: es) (tCons te t) (mCons f g) := ⟨pk_cons ha.pe hr.pe, sim_cons ha.sim hr.sim⟩
theorem fo_none : FO X G E none tNoPart (fun _ S => .ok none S) := ⟨po_none, fun w ρ σ Q I h => h w rfl (WStep.refl I.ok.sub) I.ok⟩
def mPart (f : Rho → Store → Res PV) : Rho → Store → Res (Option Int) := fun ρ S => (f ρ S).bind fun x S1 => match x with
  | .int i => .ok (some i) S1
  | _ => .bad
theorem fo_some {e te f} (h : FE X G E e te f) : FO X G E (some e) (tPart te) (mPart f) := ⟨po_some h.pe, fun w ρ σ Q I g => by
  refine h.sim w ρ σ _ I (Good.imp (Good.bind1 g) (fun x S1 h1 => ?_) fun _ _ _ h => h)
  intro w1 v e1 s1 k1 r1
  subst e1
  cases x <;> first | exact h1.elim | skip
  rename_i i
  exact ⟨i, r1, h1 w1 rfl s1 k1⟩⟩

/-- a new object is laid: at an address that is cut -/
def Wd.laid (w : Wd) (p : Addr) (o : HO) : Wd := { w with H := upd w.H p o, O := p :: w.O }
theorem laid_ext {w : Wd} {p : Addr} {o : HO} (hp : w.H p = none) : ∀ a u, w.hc a = some u → (w.laid p o).hc a = some u := fun a u h => by
  obtain ⟨h1, h2⟩ := cut_some h
  have ne : a ≠ p := ne_of_none h2 hp
  show cut (upd w.H p o) (p :: w.O) a = some u
  rw [cut_out (by simp [ne, h1]), upd_ne ne]
  exact h2
theorem laid_ok {K w p o} (k : WOk K w) (hp : w.H p = none) : WOk K (w.laid p o) := by
  refine ⟨fun a h => List.mem_cons_of_mem _ (k.sub a h), k.nd, k.len, fun n u a h1 h2 => ?_, fun a h => ?_⟩
  · have na : a ≠ p := fun e => k.ninL hp (e ▸ List.mem_of_getElem? h2)
    have := (k.st n u a h1 h2).mono (List.prefix_refl _) (laid_ext (o := o) hp)
    show SOk K w.L _ (upd w.H p o a) u
    rw [upd_ne na]
    exact this
  · by_cases e : a = p
    · subst e; exact ⟨o, upd_same⟩
    · show ∃ u, upd w.H p o a = some u
      rw [upd_ne e]
      exact k.dom a ((List.mem_cons.mp h).resolve_left e)
theorem laid_step {K w p o} (k : WOk K w) (hp : w.H p = none) : WStep w (w.laid p o) :=
  ⟨List.prefix_refl _, fun a u h _ => by
    show upd w.H p o a = some u
    rw [upd_ne (ne_of_none h hp)]; exact h, fun a h => List.mem_cons_of_mem _ h, fun a h => by
    rcases List.mem_cons.mp h with e | h
    · exact .inr (e ▸ hp)
    · exact .inl h, fun a h => .inl h⟩
/-- .. and stands as a value -/
def Wd.put (w : Wd) (p : Addr) (o : HO) : Wd := { w with H := upd w.H p o }
theorem put_at {K w p o} (k : WOk K w) (hp : w.H p = none) : (w.put p o).hc p = some o := by
  show cut (upd w.H p o) w.O p = some o
  rw [cut_out (k.nin hp), upd_same]
theorem put_ext {w : Wd} {p : Addr} {o : HO} (hp : w.H p = none) : ∀ a u, w.hc a = some u → (w.put p o).hc a = some u := fun a u h => by
  obtain ⟨h1, h2⟩ := cut_some h
  show cut (upd w.H p o) w.O a = some u
  rw [cut_out h1, upd_ne (ne_of_none h2 hp)]
  exact h2
theorem put_ok {K w p o} (k : WOk K w) (hp : w.H p = none) : WOk K (w.put p o) := by
  refine ⟨k.sub, k.nd, k.len, fun n u a h1 h2 => ?_, fun a h => ?_⟩
  · have na : a ≠ p := fun e => k.ninL hp (e ▸ List.mem_of_getElem? h2)
    have := (k.st n u a h1 h2).mono (List.prefix_refl _) (put_ext (o := o) hp)
    show SOk K w.L _ (upd w.H p o a) u
    rw [upd_ne na]
    exact this
  · obtain ⟨u, e⟩ := k.dom a h
    exact ⟨u, by show upd w.H p o a = some u; rw [upd_ne (ne_of_none e hp)]; exact e⟩
theorem put_step {K w p o} (k : WOk K w) (hp : w.H p = none) : WStep w (w.put p o) :=
  ⟨List.prefix_refl _, fun a u h _ => by
    show upd w.H p o a = some u
    rw [upd_ne (ne_of_none h hp)]; exact h, fun a h => h, fun a h => .inl h, fun a h => .inl h⟩

def sizeM : Nat := 100000
theorem sizeM_le {n : Nat} (h : n ≤ sizeM) : n ≤ sizeLine := Nat.le_trans h (by decide)
theorem sizeM_lt {n : Nat} (h : n < sizeM) : n < sizeLine := Nat.lt_of_lt_of_le h (by decide)
def gTup (xs : List PV) (S : Store) : Res PV := if xs.length ≤ sizeM then .ok (.tup xs) S else .bad
def gLst (xs : List PV) (S : Store) : Res SO := if xs.length ≤ sizeM then .ok (.lst xs) S else .bad
theorem good_if {α : Type} {c : Prop} [Decidable c] {r : Res α} {ok ex} (h : Good (if c then r else .bad) ok ex) : c ∧ Good r ok ex := by
  by_cases q : c
  · rw [if_pos q] at h; exact ⟨q, h⟩
  · rw [if_neg q] at h; exact h.elim
/-- a new tuple -/
theorem post_tup {K w Q} {xs : List PV} {vs : List V} {S : Store} (k : WOk K w) (hS : w.S = S) (r : RVs K w.L w.hc xs vs) (h : PostV K w Q (.tup xs) S) : ∀ p, w.H p = none → Q (.ref p) (upd w.H p (.tup vs)) := fun p hp =>
  h (w.put p (.tup vs)) (.ref p) hS (put_step k hp) (put_ok k hp) ⟨p, vs, rfl, .inl (.inl (put_at k hp)), r.mono (List.prefix_refl _) (put_ext hp)⟩
theorem post_lst {K w Q} {xs : List PV} {vs : List V} {S : Store} (k : WOk K w) (hS : w.S = S) (r : RVs K w.L w.hc xs vs) (h : PostN K w Q (.lst xs) S) : ∀ p, w.H p = none → Q (.ref p) (upd w.H p (.lst vs)) := fun p hp =>
  h (w.laid p (.lst vs)) p hS (laid_step k hp) (laid_ok k hp) hp List.mem_cons_self (k.ninL hp) ⟨vs, by show upd w.H p _ p = _; rw [upd_same], r.mono (List.prefix_refl _) (laid_ext hp)⟩
theorem fe_tup {es x1 pos t f} (h : FA X G E es t f) : FE X G E (.Tuple es x1 pos) (tTup t) (mArgs gTup f) := ⟨pe_tup h.pe, fun w ρ σ Q I g => by
  refine h.sim w ρ σ _ I (Good.imp (Good.bind1 g) (fun xs S1 h1 => ?_) fun _ _ _ h => h)
  intro w1 vs e1 s1 k1 r1
  subst e1
  obtain ⟨c, h2⟩ := good_if h1
  exact ⟨by rw [r1.len]; exact sizeM_le c, post_tup k1 rfl r1 (PostV.step s1 I.ok k1 h2)⟩⟩
theorem fn_lst {es pos t f} (h : FA X G E es t f) : FN X G E (.List es pos) (tLst t) (mArgs gLst f) := ⟨pe_lst h.pe, fun w ρ σ Q I g => by
  refine h.sim w ρ σ _ I (Good.imp (Good.bind1 g) (fun xs S1 h1 => ?_) fun _ _ _ h => h)
  intro w1 vs e1 s1 k1 r1
  subst e1
  obtain ⟨c, h2⟩ := good_if h1
  exact ⟨by rw [r1.len]; exact sizeM_le c, post_lst k1 rfl r1 (PostN.step s1 I.ok k1 h2)⟩⟩
/-- a new object that is not changed any more -/
theorem sim_frz {K mg G E} {te : TE} {f} (h : NSim K mg G E te f) : ESim K mg G E te (mFrz f) := fun w ρ σ Q I g => by
  refine h w ρ σ Q I (Good.imp (Good.bind1 g) (fun o S1 h1 => ?_) fun _ _ _ h => h)
  intro w1 p e1 s1 k1 n1 o1 l1 r1
  exact h1 (w1.freeze p) (.ref p) e1 (freeze_step s1 (I.ok.nin n1)) (freeze_ok k1 l1) (freeze_rv r1)
theorem FN.fe {e te f} (h : FN X G E e te f) : FE X G E e te (mFrz f) := ⟨h.pe, sim_frz h.sim⟩

/-! calls of built-ins -/
theorem sim_CB {K mg G E} {t : TA} {f} {r : List V → Hp → VK → Prop} {g} (h : ASim K mg G E t f) (hr : ∀ σ, RASim K mg (E σ) r g) : ESim K mg G E (tCB r t) (mArgs g f) := fun w ρ σ Q I q => by
  refine h w ρ σ _ I (Good.imp (Good.bind1 q) (fun xs S1 h1 => ?_) fun _ _ _ h => h)
  intro w1 vs e1 s1 k1 r1
  subst e1
  exact hr σ w1 xs vs Q k1 r1 (Good.imp h1 (fun _ _ h => h.step s1 I.ok k1) fun _ _ _ h => h.step s1 I.ok k1)
theorem sim_CBN {K mg G E} {t : TA} {f} {r : List V → Hp → VK → Prop} {g} (h : ASim K mg G E t f) (hr : ∀ σ, RAN K mg (E σ) r g) : NSim K mg G E (tCB r t) (mArgs g f) := fun w ρ σ Q I q => by
  refine h w ρ σ _ I (Good.imp (Good.bind1 q) (fun xs S1 h1 => ?_) fun _ _ _ h => h)
  intro w1 vs e1 s1 k1 r1
  subst e1
  exact hr σ w1 xs vs Q k1 r1 (Good.imp h1 (fun _ _ h => h.step s1 I.ok k1) fun _ _ _ h => h.step s1 I.ok k1)
theorem fe_callB {id : String} {x : Str} {p pos e es t f r g} (hc : CallR X (.builtin id) r) (hr : ∀ σ, RASim X.K X.mg (E σ) r g) (hm : X.mg x = none) (ha : FA X G E (e :: es) t f) (hg : Gl X x := by rfl) (hv : bootBuiltins x = some (.builtin id) := by decide +kernel) (hn : x ≠ "__name__" := by decide) (hdb : (x == ("__debug__" : Str)) = false := by decide)
    (he : starEach (e :: es) X.env = (false, eval e X.env) :: starEach es X.env := by rfl) (hpl : (backTo pos (starEach es X.env)).any (·.1) = false := by rfl) : FE X G E (.Call (.Name x p) (e :: es) [] pos) (tCB r t) (mArgs g f) :=
  ⟨pe_callB hc hg hm hv ha.pe hn hdb he hpl, sim_CB ha.sim hr⟩
theorem fe_callTy {T : String} {x : Str} {p pos e es t f r g} (hc : CallR X (.type T) r) (hr : ∀ σ, RASim X.K X.mg (E σ) r g) (hm : X.mg x = none) (ha : FA X G E (e :: es) t f) (hg : Gl X x := by rfl) (hv : bootBuiltins x = some (.type T) := by decide +kernel) (hn : x ≠ "__name__" := by decide) (hdb : (x == ("__debug__" : Str)) = false := by decide)
    (he : starEach (e :: es) X.env = (false, eval e X.env) :: starEach es X.env := by rfl) (hpl : (backTo pos (starEach es X.env)).any (·.1) = false := by rfl) : FE X G E (.Call (.Name x p) (e :: es) [] pos) (tCB r t) (mArgs g f) :=
  ⟨pe_callTy hc hg hm hv ha.pe hn hdb he hpl, sim_CB ha.sim hr⟩
theorem fn_callTy {T : String} {x : Str} {p pos e es t f r g} (hc : CallR X (.type T) r) (hr : ∀ σ, RAN X.K X.mg (E σ) r g) (hm : X.mg x = none) (ha : FA X G E (e :: es) t f) (hg : Gl X x := by rfl) (hv : bootBuiltins x = some (.type T) := by decide +kernel) (hn : x ≠ "__name__" := by decide) (hdb : (x == ("__debug__" : Str)) = false := by decide)
    (he : starEach (e :: es) X.env = (false, eval e X.env) :: starEach es X.env := by rfl) (hpl : (backTo pos (starEach es X.env)).any (·.1) = false := by rfl) : FN X G E (.Call (.Name x p) (e :: es) [] pos) (tCB r t) (mArgs g f) :=
  ⟨pe_callTy hc hg hm hv ha.pe hn hdb he hpl, sim_CBN ha.sim hr⟩
/-! subscripts -/
theorem fe_ix {a b pos ta tb fa fb} {r : R2} {g} (hr : IxR X r) (hs : ∀ σ, R2Sim X.K X.mg (E σ) r g) (ha : FE X G E a ta fa) (hb : FE X G E b tb fb) (hp : PlainIx b := by exact fun _ _ => rfl) : FE X G E (.Subscript a b pos) (tOp r ta tb) (mOp g fa fb) := ⟨pe_ix hr ha.pe hb.pe hp, sim_op ha.sim hb.sim hs⟩
def mSl {α : Type} (g : PV → Option Int → Option Int → Store → Res α) (a : Rho → Store → Res PV) (l h : Rho → Store → Res (Option Int)) : Rho → Store → Res α := fun ρ S => (a ρ S).bind fun x S1 => (l ρ S1).bind fun i S2 => (h ρ S2).bind fun j S3 => g x i j S3
def RSl (K : PySem.W.Frag) (mg : Str → Option Value) (E : XK) (r : V → Option Int → Option Int → Hp → VK → Prop) (g : PV → Option Int → Option Int → Store → Res PV) : Prop := ∀ w x v i j Q, WOk K w → RV K w.L w.hc x v → Good (g x i j w.S) (PostV K w Q) (ExP K mg E w) → r v i j w.H Q
theorem fe_slice {e lo hi p2 pos te tl th f fl fh r g} (hr : SlR X r) (hs : ∀ σ, RSl X.K X.mg (E σ) r g) (he : FE X G E e te f) (hl : FO X G E lo tl fl) (hh : FO X G E hi th fh) : FE X G E (.Subscript e (.Slice lo hi none p2) pos) (tSl r te tl th) (mSl g f fl fh) := ⟨pe_slice hr he.pe hl.pe hh.pe, fun w ρ σ Q I h => by
  refine he.sim w ρ σ _ I (Good.imp (Good.bind1 h) (fun x S1 h1 => ?_) fun _ _ _ h => h)
  intro w1 v e1 s1 k1 r1
  subst e1
  have I1 := I.step s1 k1
  refine hl.sim w1 ρ σ _ I1 (Good.imp (Good.bind1 h1) (fun i S2 h2 => ?_) fun _ _ _ h => h.step s1 I.ok k1)
  intro w2 e2 s2 k2
  subst e2
  have I2 := I1.step s2 k2
  have s12 := s1.tr s2 I.ok k1
  refine hh.sim w2 ρ σ _ I2 (Good.imp (Good.bind1 h2) (fun j S3 h3 => ?_) fun _ _ _ h => h.step s12 I.ok k2)
  intro w3 e3 s3 k3
  subst e3
  have s13 := s12.tr s3 I.ok k2
  exact hs σ w3 x v i j Q k3 (r1.mono (s2.pre.trans s3.pre) fun a o q => s3.ext k2.sub a o (s2.ext k1.sub a o q)) (Good.imp h3 (fun _ _ h => h.step s13 I.ok k3) fun _ _ _ h => h.step s13 I.ok k3)⟩
end
end Mir
set_option maxHeartbeats 4000000
/-! Mir2: statements, loops, comprehensions, defs. -/
namespace Mir
open PySem PySem.Spec PyProof.Rows L2

inductive Out where
  | nx (ρ : Rho) | rt (x : PV) | bk (ρ : Rho) | ct (ρ : Rho)
section
variable (K : PySem.W.Frag) (mg : Str → Option Value) (G : Wd) (E : XK)
def PostR (w : Wd) (Q : L2.St → Hp → Prop) : Rho → Store → Prop := fun ρ' S' => ∀ w' σ', w'.S = S' → VStep w w' → FI K G w' ρ' σ' → Q σ' w'.H
def PostX (Q : VK) : PV → Store → Prop := fun x S' => ∀ w' v, w'.S = S' → WStep G w' → WOk K w' → RV K w'.L (cut w'.H (G.O ++ w'.L)) x v → Q v w'.H
def PostS (w : Wd) (D : Ends) : Out → Store → Prop
  | .nx ρ', S' => PostR K G w D.nx ρ' S'
  | .bk ρ', S' => PostR K G w D.bk ρ' S'
  | .ct ρ', S' => PostR K G w D.ct ρ' S'
  | .rt x, S' => PostX K G D.rt x S'
def SSim (K : PySem.W.Frag) (mg : Str → Option Value) (G : Wd) (E : EK) (ts : TS) (f : Rho → Store → Res Out) : Prop := ∀ w ρ σ D, FI K G w ρ σ → Good (f ρ w.S) (PostS K G w D) (ExP K mg (E σ) G) → ts D σ w.H
def GSim (g : TG) (f : PV → Rho → Store → Res Rho) : Prop := ∀ w ρ σ x v Q, FI K G w ρ σ → RV K w.L w.hc x v → Good (f x ρ w.S) (PostR K G w Q) (ExP K mg E G) → g v σ w.H Q
end
theorem PostR.step {K G} {w w1 : Wd} {Q : L2.St → Hp → Prop} {ρ S} (s : VStep w w1) (h : PostR K G w Q ρ S) : PostR K G w1 Q ρ S := fun w' σ' e s' I => h w' σ' e (s.trans s') I
theorem PostS.step {K G} {w w1 : Wd} {D : Ends} {o S} (s : VStep w w1) (h : PostS K G w D o S) : PostS K G w1 D o S := by
  cases o with
  | nx ρ => exact PostR.step s h
  | bk ρ => exact PostR.step s h
  | ct ρ => exact PostR.step s h
  | rt x => exact h
variable (X : Cx) (G : Wd) (E : EK) in
structure FS (st : Stmt) (ts : TS) (f : Rho → Store → Res Out) : Prop where
  pe : PS X st ts
  sim : SSim X.K X.mg G E ts f
variable (X : Cx) (G : Wd) (E : EK) in
structure FSs (st : List Stmt) (ts : TS) (f : Rho → Store → Res Out) : Prop where
  pe : PSs X st ts
  sim : SSim X.K X.mg G E ts f
variable (X : Cx) (G : Wd) (E : XK) in
structure FG (e : Expr) (g : TG) (f : PV → Rho → Store → Res Rho) : Prop where
  pe : PG X e g
  sim : GSim X.K X.mg G E g f

/-! ### lemmas on worlds -/
section
variable {K : PySem.W.Frag} {G w w' : Wd} {ρ : Rho} {σ : L2.St} {p : Addr} {ho : HO} {o : SO}
theorem upd_cut {H : Hp} {O : List Addr} (h : p ∈ O) : cut (upd H p ho) O = cut H O := by
  funext a
  by_cases m : a ∈ O
  · rw [cut_in m, cut_in m]
  · rw [cut_out m, cut_out m, upd_ne fun e => m (by rw [e]; exact h)]
/-- an object that is cut, and no shared one, is written -/
def Wd.wr (w : Wd) (p : Addr) (ho : HO) : Wd := { w with H := upd w.H p ho }
theorem wr_hc (h : p ∈ w.O) : (w.wr p ho).hc = w.hc := upd_cut h
theorem wr_ok (k : WOk K w) (hO : p ∈ w.O) (hL : p ∉ w.L) : WOk K (w.wr p ho) := by
  refine ⟨k.sub, k.nd, k.len, fun n u a h1 h2 => ?_, fun a h => ?_⟩
  · have na : a ≠ p := fun e => hL (e ▸ List.mem_of_getElem? h2)
    rw [wr_hc hO]
    show SOk K w.L w.hc (upd w.H p ho a) u
    rw [upd_ne na]
    exact k.st n u a h1 h2
  · obtain ⟨u, e⟩ := k.dom a h
    by_cases q : a = p
    · subst q; exact ⟨ho, upd_same⟩
    · exact ⟨u, by show upd w.H p ho a = some u; rw [upd_ne q]; exact e⟩
theorem wr_step (s : WStep G w) (hn : G.H p = none) : WStep G (w.wr p ho) :=
  ⟨s.pre, fun a u h n => by show upd w.H p ho a = some u; rw [upd_ne (ne_of_none h hn)]; exact s.keep a u h n, s.omono, s.oset, s.lset⟩
theorem wr_v (hO : p ∈ w.O) : VStep w (w.wr p ho) := ⟨List.prefix_refl _, fun a u h => by rw [wr_hc hO]; exact h⟩
/-- .. a slot's own object -/
theorem FI.wrOwn {i : Nat} {oi : SO} (I : FI K G w ρ σ) (hi : ρ[i]? = some (.own oi)) (hσ : σ[i]? = some (some (.ref p))) (hO : p ∈ w.O) (hL : p ∉ w.L) (hn : G.H p = Option.none) (r : SOk K w.L w.hc (some ho) o) : FI K G (w.wr p ho) (ρ.set i (.own o)) σ := by
  refine ⟨I.gok, wr_ok I.ok hO hL, wr_step I.stp hn, by simpa using I.len, fun j y h => ?_, fun j oj h => ?_, fun j k oj ok' n h1 h2 => ?_, fun j c fs h => ?_⟩
  · rcases set_get h with ⟨rfl, e⟩ | ⟨n, h⟩
    · cases e
    · rw [wr_hc hO]; exact I.val j y h
  · rw [wr_hc hO]
    rcases set_get h with ⟨rfl, e⟩ | ⟨n, h⟩
    · cases e
      exact ⟨p, hσ, hO, hL, hn, by show SOk K w.L w.hc (upd w.H p ho p) o; rw [upd_same]; exact r⟩
    · obtain ⟨q, a, b, c, d, e⟩ := I.own j oj h
      have nq : q ≠ p := fun z => I.dis j i oj oi n h hi (by rw [a, hσ, z])
      exact ⟨q, a, b, c, d, by show SOk K w.L w.hc (upd w.H p ho q) oj; rw [upd_ne nq]; exact e⟩
  · have hl := get_lt hi
    have own_at : ∀ (k : Nat) (u : SO), (ρ.set i (Slot.own o))[k]? = some (Slot.own u) → ∃ u' : SO, ρ[k]? = some (Slot.own u') := fun k u h => by
      rcases set_get h with ⟨rfl, _⟩ | ⟨_, h⟩
      · exact ⟨_, hi⟩
      · exact ⟨_, h⟩
    obtain ⟨u1, e1⟩ := own_at j _ h1
    obtain ⟨u2, e2⟩ := own_at k _ h2
    exact I.dis j k u1 u2 n e1 e2
  · rcases set_get h with ⟨rfl, e⟩ | ⟨n, h⟩
    · cases e
    · rw [wr_hc hO]; exact I.pin j c fs h
/-- a new own object is stored in a slot -/
theorem FI.setOwn {i : Nat} {w0 : Wd} (I0 : FI K G w0 ρ σ) (s : WStep w0 w) (k : WOk K w) (hn : w0.H p = none) (hO : p ∈ w.O) (hL : p ∉ w.L) (r : SOk K w.L w.hc (w.H p) o) : FI K G w (ρ.set i (.own o)) (σ.set i (some (.ref p))) := by
  have I := I0.step s k
  have hg : G.H p = Option.none := by
    cases q : G.H p with
    | none => rfl
    | some u =>
      by_cases z : p ∈ G.L
      · obtain ⟨u', e⟩ := I0.ok.domL p (I0.stp.pre.subset z)
        rw [hn] at e; cases e
      · rw [I0.stp.keep p u q z] at hn; cases hn
  have far : ∀ (j : Nat) (oj : SO), ρ[j]? = some (Slot.own oj) → σ[j]? ≠ some (some (V.ref p)) := fun j oj h e => by
    obtain ⟨q, a, b, _⟩ := I0.own j oj h
    rw [a] at e
    cases e
    exact I0.ok.nin hn b
  refine ⟨I.gok, I.ok, I.stp, by simpa using I.len, fun j y h => ?_, fun j oj h => ?_, fun j k oj ok' n h1 h2 => ?_, fun j c fs h => ?_⟩
  · rcases set_get h with ⟨rfl, e⟩ | ⟨n, h⟩
    · cases e
    · obtain ⟨v', a, b⟩ := I.val j y h
      exact ⟨v', by rw [List.getElem?_set_ne (Ne.symm n)]; exact a, b⟩
  · rcases set_get h with ⟨rfl, e⟩ | ⟨n, h⟩
    · cases e
      have := get_lt h
      exact ⟨p, by rw [List.getElem?_set_self (by rw [I.len]; simpa using this)], hO, hL, hg, r⟩
    · obtain ⟨q, a, b⟩ := I.own j oj h
      exact ⟨q, by rw [List.getElem?_set_ne (Ne.symm n)]; exact a, b⟩
  · rcases set_get h1 with ⟨rfl, e⟩ | ⟨n1, h1'⟩
    · rcases set_get h2 with ⟨e2, _⟩ | ⟨n2, h2'⟩
      · exact absurd e2.symm n
      · have := get_lt h1
        rw [List.getElem?_set_self (by rw [I.len]; simpa using this), List.getElem?_set_ne (Ne.symm n2)]
        exact fun e => far k ok' h2' e.symm
    · rcases set_get h2 with ⟨rfl, e⟩ | ⟨n2, h2'⟩
      · have := get_lt h2
        rw [List.getElem?_set_self (by rw [I.len]; simpa using this), List.getElem?_set_ne (Ne.symm n1)]
        exact far j oj h1'
      · rw [List.getElem?_set_ne (Ne.symm n1), List.getElem?_set_ne (Ne.symm n2)]
        exact I.dis j k oj ok' n h1' h2'
  · rcases set_get h with ⟨rfl, e⟩ | ⟨n, h⟩
    · cases e
    · obtain ⟨a, d, P, vs, h1, h2, h3⟩ := I.pin j c fs h
      exact ⟨a, d, P, vs, h1, by rw [List.getElem?_set_ne (Ne.symm n)]; exact h2, h3⟩
/-- a slot's own object is not changed any more -/
theorem FI.frzOwn {i : Nat} (I : FI K G w ρ σ) (hi : ρ[i]? = some (.own o)) (hσ : σ[i]? = some (some (.ref p))) (hO : p ∈ w.O) (hL : p ∉ w.L) (hn : G.H p = Option.none) (r : SOk K w.L w.hc (w.H p) o) :
    FI K G (w.freeze p) (ρ.set i (.val (frz o))) σ := by
  refine ⟨I.gok, freeze_ok I.ok hL, freeze_step I.stp (I.gok.nin hn), by simpa using I.len, fun j y h => ?_, fun j oj h => ?_, fun j k oj ok' n h1 h2 => ?_, fun j c fs h => ?_⟩
  · rcases set_get h with ⟨rfl, e⟩ | ⟨n, h⟩
    · cases e
      exact ⟨_, hσ, freeze_rv r⟩
    · obtain ⟨v', a, b⟩ := I.val j y h
      exact ⟨v', a, b.mono (List.prefix_refl _) freeze_ext⟩
  · rcases set_get h with ⟨rfl, e⟩ | ⟨n, h⟩
    · cases e
    · obtain ⟨q, a, b, c, d, e⟩ := I.own j oj h
      have nq : q ≠ p := fun z => I.dis j i oj o n h hi (by rw [a, hσ, z])
      exact ⟨q, a, freeze_O.mpr ⟨b, nq⟩, c, d, e.mono (List.prefix_refl _) freeze_ext⟩
  · rcases set_get h1 with ⟨rfl, e⟩ | ⟨n1, h1'⟩
    · cases e
    · rcases set_get h2 with ⟨rfl, e⟩ | ⟨n2, h2'⟩
      · cases e
      · exact I.dis j k oj ok' n h1' h2'
  · rcases set_get h with ⟨rfl, e⟩ | ⟨n, h⟩
    · cases e
    · obtain ⟨a, d, P, vs, h1, h2, h3, h4, h5⟩ := I.pin j c fs h
      exact ⟨a, d, P, vs, h1, h2, h3, freeze_ext _ _ h4, h5.mono (List.prefix_refl _) freeze_ext⟩
theorem freeze_v : VStep w (w.freeze p) := ⟨List.prefix_refl _, freeze_ext⟩
/-- a shared object is written -/
def Wd.put2 (w : Wd) (p : Addr) (ho : HO) (n : Nat) (o : SO) : Wd := { w with H := upd w.H p ho, S := w.S.set n o }
theorem put2_ok {n : Nat} (k : WOk K w) (hp : w.L[n]? = some p) (r : SOk K w.L w.hc (some ho) o) : WOk K (w.put2 p ho n o) := by
  have hL : p ∈ w.L := List.mem_of_getElem? hp
  have hO := k.sub p hL
  have eq : (w.put2 p ho n o).hc = w.hc := upd_cut hO
  refine ⟨k.sub, k.nd, by show (w.S.set n o).length = _; rw [List.length_set]; exact k.len, fun m u a h1 h2 => ?_, fun a h => ?_⟩
  · rw [eq]
    show SOk K w.L w.hc (upd w.H p ho a) u
    rcases set_get h1 with ⟨rfl, e⟩ | ⟨ne, h1⟩
    · rw [show w.L[m]? = some a from h2] at hp
      cases hp
      rw [upd_same, e]
      exact r
    · have na : a ≠ p := fun e => by
        subst e
        obtain ⟨l1, e1⟩ := List.getElem?_eq_some_iff.mp (show w.L[m]? = some a from h2)
        obtain ⟨l2, e2⟩ := List.getElem?_eq_some_iff.mp hp
        exact ne ((List.getElem_inj k.nd).mp (e1.trans e2.symm))
      rw [upd_ne na]
      exact k.st m u a h1 h2
  · obtain ⟨u, e⟩ := k.dom a h
    by_cases q : a = p
    · subst q; exact ⟨ho, upd_same⟩
    · exact ⟨u, by show upd w.H p ho a = some u; rw [upd_ne q]; exact e⟩
theorem put2_step {n : Nat} (k : WOk K w) (hp : w.L[n]? = some p) : WStep w (w.put2 p ho n o) :=
  ⟨List.prefix_refl _, fun a u h na => by
    show upd w.H p ho a = some u
    rw [upd_ne fun e => na (by rw [e]; exact List.mem_of_getElem? hp)]; exact h, fun _ h => h, fun _ h => .inl h, fun _ h => .inl h⟩
/-- an object of ours becomes a shared one -/
def Wd.share (w : Wd) (p : Addr) (o : SO) : Wd := { w with L := w.L ++ [p], S := w.S ++ [o] }
theorem share_ok (k : WOk K w) (hO : p ∈ w.O) (hL : p ∉ w.L) (r : SOk K w.L w.hc (w.H p) o) : WOk K (w.share p o) := by
  have pre : w.L <+: w.L ++ [p] := List.prefix_append _ _
  refine ⟨fun a h => ?_, ?_, by show (w.S ++ [o]).length = (w.L ++ [p]).length; rw [List.length_append, List.length_append, k.len]; rfl, fun n u a h1 h2 => ?_, k.dom⟩
  · rcases List.mem_append.mp h with h | h
    · exact k.sub a h
    · rw [List.mem_singleton.mp h]; exact hO
  · refine List.nodup_append.mpr ⟨k.nd, by simp, fun a ha b hb e => ?_⟩
    rw [List.mem_singleton.mp hb] at e
    exact hL (e ▸ ha)
  · have h1 : (w.S ++ [o])[n]? = some u := h1
    have h2 : (w.L ++ [p])[n]? = some a := h2
    by_cases q : n < w.S.length
    · rw [List.getElem?_append_left q] at h1
      rw [List.getElem?_append_left (by rw [← k.len]; exact q)] at h2
      exact (k.st n u a h1 h2).mono pre fun _ _ h => h
    · rw [List.getElem?_append_right (Nat.le_of_not_lt q)] at h1
      rw [List.getElem?_append_right (by rw [← k.len]; exact Nat.le_of_not_lt q)] at h2
      have q0 : n - w.S.length = 0 := by
        have := get_lt h1
        simp at this; omega
      rw [q0] at h1
      rw [← k.len, q0] at h2
      cases h1; cases h2
      exact r.mono pre fun _ _ h => h
theorem share_step {w0 : Wd} (s : WStep w0 w) (hn : w0.H p = none) : WStep w0 (w.share p o) :=
  ⟨s.pre.trans (List.prefix_append _ _), s.keep, s.omono, s.oset, fun a h => by
    rcases List.mem_append.mp h with h | h
    · exact s.lset a h
    · rw [List.mem_singleton.mp h]; exact .inr hn⟩
theorem share_rv (k : WOk K w) : RV K (w.share p o).L (w.share p o).hc (.obj w.S.length) (.ref p) := ⟨p, rfl, by
  show (w.L ++ [p])[w.S.length]? = some p
  rw [k.len, List.getElem?_append_right (Nat.le_refl _), Nat.sub_self]
  rfl⟩
/-- an address of ours is none of the callers' -/
theorem cut_ret {x : PV} {v : V} (s : WStep G w) (k : WOk K w) (r : RV K w.L w.hc x v) : RV K w.L (cut w.H (G.O ++ w.L)) x v := r.mono (List.prefix_refl _) fun a u h => by
  obtain ⟨h1, h2⟩ := cut_some h
  rw [cut_out fun z => h1 ((List.mem_append.mp z).elim (s.omono a) (k.sub a))]
  exact h2
end

/-! ### targets -/
def gNm (i : Nat) : PV → Rho → Store → Res Rho := fun x ρ S => .ok (ρ.set i (.val x)) S
theorem fg_name {X : Cx} {G : Wd} {E : XK} {i : Nat} {x : Str} {pos : Pos} (h : PG X (.Name x pos) (gName i)) : FG X G E (.Name x pos) (gName i) (gNm i) := ⟨h, fun w ρ σ x v Q I r g => g w (σ.set i (some v)) rfl (VStep.refl w) (I.set r)⟩
def GsSim (K : PySem.W.Frag) (mg : Str → Option Value) (G : Wd) (E : XK) (g : TGs) (f : List PV → Rho → Store → Res Rho) : Prop := ∀ w ρ σ xs vs Q, FI K G w ρ σ → RVs K w.L w.hc xs vs → Good (f xs ρ w.S) (PostR K G w Q) (ExP K mg E G) → g vs σ w.H Q
variable (X : Cx) (G : Wd) (E : XK) in
structure FGs (es : List Expr) (g : TGs) (f : List PV → Rho → Store → Res Rho) : Prop where
  pe : PGs X es g
  sim : GsSim X.K X.mg G E g f
def gsNil : List PV → Rho → Store → Res Rho
  | [], ρ, S => .ok ρ S
  | _, _, _ => .bad
def gsCons (f : PV → Rho → Store → Res Rho) (g : List PV → Rho → Store → Res Rho) : List PV → Rho → Store → Res Rho
  | x :: xs, ρ, S => (f x ρ S).bind fun ρ' S' => g xs ρ' S'
  | _, _, _ => .bad
def gTupM (n : Nat) (g : List PV → Rho → Store → Res Rho) : PV → Rho → Store → Res Rho
  | .tup xs, ρ, S => if xs.length = n then g xs ρ S else .bad
  | _, _, _ => .bad
theorem fgs_nil {X : Cx} {G : Wd} {E : XK} : FGs X G E [] gNil gsNil := ⟨pgs_nil, fun w ρ σ xs vs Q I r g => by
  cases xs with
  | nil => exact ⟨r, g w σ rfl (VStep.refl w) I⟩
  | cons x xs => exact g.elim⟩
theorem fgs_cons {X : Cx} {G : Wd} {E : XK} {e es t u f g} (h1 : FG X G E e t f) (h2 : FGs X G E es u g) (pe : PGs X (e :: es) (gCons t u) := by exact pgs_cons (h1.pe) (h2.pe)) : FGs X G E (e :: es) (gCons t u) (gsCons f g) := ⟨pe, fun w ρ σ xs vs Q I r q => by
  cases xs with
  | nil => exact q.elim
  | cons x xs =>
    obtain ⟨v, rs, rfl, r1, r2⟩ := r
    refine ⟨v, rs, rfl, h1.sim w ρ σ x v _ I r1 (Good.imp (Good.bind1 q) (fun ρ1 S1 q1 => ?_) fun _ _ _ h => h)⟩
    intro w1 σ1 e1 s1 I1
    subst e1
    exact h2.sim w1 ρ1 σ1 xs rs Q I1 (r2.mono s1.pre s1.ext) (Good.imp q1 (fun _ _ h => h.step s1) fun _ _ _ h => h)⟩
theorem fg_tup {X : Cx} {G : Wd} {E : XK} {es k t pos f} {n : Nat} (h : FGs X G E es t f) (pe : PG X (.Tuple es k pos) (L2.gTup X.K n t)) : FG X G E (.Tuple es k pos) (L2.gTup X.K n t) (gTupM n f) := ⟨pe, fun w ρ σ x v Q I r q => by
  cases x <;> first | exact q.elim | skip
  rename_i xs
  obtain ⟨a, vs, rfl, r1, r2⟩ := r
  obtain ⟨hn, q⟩ := good_if q
  exact ⟨a, vs, rfl, sqT_mono (fun a o h => (cut_some h).2) r1, r2.len.trans hn, h.sim w ρ σ xs vs Q I r2 q⟩⟩
end Mir
set_option maxHeartbeats 4000000
/-! Mir3: statements, loops, comprehensions, defs. -/
namespace Mir
open PySem PySem.Spec PyProof.Rows L2

/-! ### mirrors of statements -/
def mSet (i : Nat) (f : Rho → Store → Res PV) : Rho → Store → Res Out := fun ρ S => (f ρ S).bind fun x S1 => .ok (.nx (ρ.set i (.val x))) S1
def mSetOwn (i : Nat) (f : Rho → Store → Res SO) : Rho → Store → Res Out := fun ρ S => (f ρ S).bind fun o S1 => .ok (.nx (ρ.set i (.own o))) S1
def mShare (i : Nat) (f : Rho → Store → Res SO) : Rho → Store → Res Out := fun ρ S => (f ρ S).bind fun o S1 => .ok (.nx (ρ.set i (.val (.obj S1.length)))) (S1 ++ [o])
def mAsg (f : Rho → Store → Res PV) (g : PV → Rho → Store → Res Rho) : Rho → Store → Res Out := fun ρ S => (f ρ S).bind fun x S1 => (g x ρ S1).bind fun ρ' S2 => .ok (.nx ρ') S2
def mDrop (f : Rho → Store → Res PV) : Rho → Store → Res Out := fun ρ S => (f ρ S).bind fun _ S1 => .ok (.nx ρ) S1
def mRet (f : Rho → Store → Res PV) : Rho → Store → Res Out := fun ρ S => (f ρ S).bind fun x S1 => .ok (.rt x) S1
def mRetOwn (i : Nat) : Rho → Store → Res Out := fun ρ S => match ρ[i]? with
  | some (.own o) => .ok (.rt (frz o)) S
  | _ => .bad
def mSkip : Rho → Store → Res Out := fun ρ S => .ok (.nx ρ) S
def mBrk : Rho → Store → Res Out := fun ρ S => .ok (.bk ρ) S
def mCnt : Rho → Store → Res Out := fun ρ S => .ok (.ct ρ) S
def mSeq (f g : Rho → Store → Res Out) : Rho → Store → Res Out := fun ρ S => (f ρ S).bind fun o S1 => match o with
  | .nx ρ' => g ρ' S1
  | o => .ok o S1
def mIfS (c : Rho → Store → Res Bool) (f g : Rho → Store → Res Out) : Rho → Store → Res Out := fun ρ S => (c ρ S).bind fun k S1 => if k then f ρ S1 else g ρ S1
def frzAt (i : Nat) (ρ : Rho) : Rho := match ρ[i]? with
  | some (.own o) => ρ.set i (.val (frz o))
  | _ => ρ
def mFrzS (i : Nat) (f : Rho → Store → Res Out) : Rho → Store → Res Out := fun ρ S => f (frzAt i ρ) S
/-- x.append(e), x a list of ours or a shared one -/
def mAppend (i : Nat) (f : Rho → Store → Res PV) : Rho → Store → Res Out := fun ρ S => match ρ[i]? with
  | some (.own (.lst xs)) => (f ρ S).bind fun y S1 => if xs.length < sizeM then .ok (.nx (ρ.set i (.own (.lst (xs ++ [y]))))) S1 else .bad
  | _ => .bad
def setIx (i : Nat) (xs : List PV) (y : PV) (ρ : Rho) : PV → Store → Res Out
  | .int k, S => match ixN xs.length k with
    | some j => .ok (.nx (ρ.set i (.own (.lst (xs.set j y))))) S
    | none => .bad
  | _, _ => .bad
def setIxO (n : Nat) (y : PV) (ρ : Rho) : PV → Store → Res Out
  | .int k, S => match S[n]? with
    | some (.lst xs) => match ixN xs.length k with
      | some j => .ok (.nx ρ) (S.set n (.lst (xs.set j y)))
      | none => .bad
    | _ => .bad
  | _, _ => .bad
/-- x[k] = e, x a list of ours, or a shared one -/
def mSetIx (i : Nat) (fk f : Rho → Store → Res PV) : Rho → Store → Res Out := fun ρ S => (f ρ S).bind fun y S1 => match ρ[i]? with
  | some (.own (.lst xs)) => (fk ρ S1).bind fun k S2 => setIx i xs y ρ k S2
  | some (.val (.obj n)) => (fk ρ S1).bind fun k S2 => setIxO n y ρ k S2
  | _ => .bad
def mForGo (g : PV → Rho → Store → Res Rho) (b : Rho → Store → Res Out) : List PV → Rho → Store → Res Out
  | [], ρ, S => .ok (.nx ρ) S
  | x :: xs, ρ, S => (g x ρ S).bind fun ρ1 S1 => (b ρ1 S1).bind fun o S2 => match o with
    | .nx ρ2 => mForGo g b xs ρ2 S2
    | .ct ρ2 => mForGo g b xs ρ2 S2
    | .bk ρ2 => .ok (.nx ρ2) S2
    | .rt x => .ok (.rt x) S2
def mFor (it : Rho → Store → Res (List PV)) (g : PV → Rho → Store → Res Rho) (b : Rho → Store → Res Out) : Rho → Store → Res Out := fun ρ S => (it ρ S).bind fun xs S1 => mForGo g b xs ρ S1
def mWhileGo (c : Rho → Store → Res Bool) (b : Rho → Store → Res Out) : Nat → Rho → Store → Res Out
  | 0, _, _ => .bad
  | n + 1, ρ, S => (c ρ S).bind fun k S1 => if k then (b ρ S1).bind fun o S2 => match o with
      | .nx ρ2 => mWhileGo c b n ρ2 S2
      | .ct ρ2 => mWhileGo c b n ρ2 S2
      | .bk ρ2 => .ok (.nx ρ2) S2
      | .rt x => .ok (.rt x) S2
    else .ok (.nx ρ) S1
def mWhile (n : Nat) (c : Rho → Store → Res Bool) (b : Rho → Store → Res Out) : Rho → Store → Res Out := fun ρ S => mWhileGo c b n ρ S
def mWipe (ρ : Rho) : List Nat → Rho
  | [] => ρ
  | v :: vs => (mWipe ρ vs).set v .none
def mLcGo (g : PV → Rho → Store → Res Rho) (t : Rho → Store → Res Bool) (e : Rho → Store → Res PV) (ρ : Rho) : List PV → Store → Res (List PV)
  | [], S => .ok [] S
  | x :: xs, S => (g x ρ S).nox.bind fun ρ1 S1 => (t ρ1 S1).nox.bind fun k S2 => if k then (e ρ1 S2).nox.bind fun y S3 => (mLcGo g t e ρ xs S3).bind fun ys S4 => .ok (y :: ys) S4 else mLcGo g t e ρ xs S2
def mLc (it : Rho → Store → Res (List PV)) (g : PV → Rho → Store → Res Rho) (t : Rho → Store → Res Bool) (e : Rho → Store → Res PV) (vs : List Nat) : Rho → Store → Res SO := fun ρ S =>
  (it ρ S).bind fun xs S1 => if xs.length ≤ sizeM then (mLcGo g t e (mWipe ρ vs) xs S1).bind fun ys S2 => .ok (.lst ys) S2 else .bad
def mTrue : Rho → Store → Res Bool := fun _ S => .ok true S
/-- the items that a for walks -/
def toSeq : PV → Store → Res (List PV)
  | .tup xs, S => .ok xs S
  | .lst xs, S => .ok xs S
  | .cl xs, S => .ok xs S
  | _, _ => .bad
def mSeqOf (f : Rho → Store → Res PV) : Rho → Store → Res (List PV) := fun ρ S => (f ρ S).bind toSeq
def range62 (i : Int) : Bool := decide (-4611686018427387904 ≤ i) && decide (i < 4611686018427387904)
def gRange1 : List PV → Store → Res (List PV)
  | [.int j], S => if range62 j = true then .ok ((List.range j.toNat).map fun (k : Nat) => PV.int (k : Int)) S else .bad
  | _, _ => .bad
def gRange2 : List PV → Store → Res (List PV)
  | [.int i, .int j], S => if (range62 i && range62 j) = true then .ok ((List.range (j - i).toNat).map fun (k : Nat) => PV.int (i + (k : Int))) S else .bad
  | _, _ => .bad
def mRange (g : List PV → Store → Res (List PV)) (f : Rho → Store → Res (List PV)) : Rho → Store → Res (List PV) := fun ρ S => (f ρ S).bind g

section
variable {X : Cx} {G : Wd} {E : EK} {E0 : XK} {K : PySem.W.Frag} {mg : Str → Option Value}
theorem sim_set {te f} {i : Nat} (h : ESim K mg G E te f) : SSim K mg G E (tAsg te (gName i)) (mSet i f) := fun w ρ σ D I q => by
  refine h w ρ σ _ I (Good.imp (Good.bind1 q) (fun x S1 h1 => ?_) fun _ _ _ h => h.step I.stp I.gok I.ok)
  intro w1 v e1 s1 k1 r1
  exact h1 w1 (σ.set i (some v)) e1 (s1.v I.ok.sub) ((I.step s1 k1).set r1)
theorem sim_setOwn {te f} {i : Nat} (h : NSim K mg G E te f) : SSim K mg G E (tAsg te (gName i)) (mSetOwn i f) := fun w ρ σ D I q => by
  refine h w ρ σ _ I (Good.imp (Good.bind1 q) (fun x S1 h1 => ?_) fun _ _ _ h => h.step I.stp I.gok I.ok)
  intro w1 p e1 s1 k1 n1 o1 l1 r1
  exact h1 w1 (σ.set i (some (.ref p))) e1 (s1.v I.ok.sub) (FI.setOwn I s1 k1 n1 o1 l1 r1)
theorem sim_share {te f} {i : Nat} (h : NSim K mg G E te f) : SSim K mg G E (tAsg te (gName i)) (mShare i f) := fun w ρ σ D I q => by
  refine h w ρ σ _ I (Good.imp (Good.bind1 q) (fun x S1 h1 => ?_) fun _ _ _ h => h.step I.stp I.gok I.ok)
  intro w1 p e1 s1 k1 n1 o1 l1 r1
  have s2 := share_step (o := x) s1 n1
  have k2 := share_ok k1 o1 l1 r1
  refine h1 (w1.share p x) (σ.set i (some (.ref p))) ?_ (s2.v I.ok.sub) ((I.step s2 k2).set ?_)
  · show w1.S ++ [x] = S1 ++ [x]
    rw [e1]
  · rw [← e1]
    exact share_rv k1
theorem sim_asg {te f g fg} (h : ESim K mg G E te f) (hg : ∀ σ, GSim K mg G (E σ) g fg) : SSim K mg G E (tAsg te g) (mAsg f fg) := fun w ρ σ D I q => by
  refine h w ρ σ _ I (Good.imp (Good.bind1 q) (fun x S1 h1 => ?_) fun _ _ _ h => h.step I.stp I.gok I.ok)
  intro w1 v e1 s1 k1 r1
  subst e1
  exact hg σ w1 ρ σ x v D.nx (I.step s1 k1) r1 (Good.imp (Good.bind1 h1) (fun ρ' S2 h2 => PostR.step (s1.v I.ok.sub) h2) fun _ _ _ h => h)
theorem fs_set {i : Nat} {x : Str} {pos' pos e te f} (he : FE X G E e te f) (pe : PS X (.Assign [.Name x pos'] e pos) (tAsg te (gName i))) : FS X G E (.Assign [.Name x pos'] e pos) (tAsg te (gName i)) (mSet i f) := ⟨pe, sim_set he.sim⟩
theorem fs_own {i : Nat} {x : Str} {pos' pos e te f} (he : FN X G E e te f) (pe : PS X (.Assign [.Name x pos'] e pos) (tAsg te (gName i))) : FS X G E (.Assign [.Name x pos'] e pos) (tAsg te (gName i)) (mSetOwn i f) := ⟨pe, sim_setOwn he.sim⟩
theorem fs_share {i : Nat} {x : Str} {pos' pos e te f} (he : FN X G E e te f) (pe : PS X (.Assign [.Name x pos'] e pos) (tAsg te (gName i))) : FS X G E (.Assign [.Name x pos'] e pos) (tAsg te (gName i)) (mShare i f) := ⟨pe, sim_share he.sim⟩
theorem fs_asg {tg e pos te f g fg} (he : FE X G (fun _ => E0) e te f) (hg : FG X G E0 tg g fg) (pe : PS X (.Assign [tg] e pos) (tAsg te g)) : FS X G (fun _ => E0) (.Assign [tg] e pos) (tAsg te g) (mAsg f fg) := ⟨pe, sim_asg he.sim fun _ => hg.sim⟩
theorem fs_expr {e pos te f} (he : FE X G E e te f) (hs : swapsWith e none pos.line X.env = pure false := by rfl) : FS X G E (.Expr e pos) (tDrop te) (mDrop f) := ⟨ps_expr he.pe hs, fun w ρ σ D I q => by
  refine he.sim w ρ σ _ I (Good.imp (Good.bind1 q) (fun x S1 h1 => ?_) fun _ _ _ h => h.step I.stp I.gok I.ok)
  intro w1 v e1 s1 k1 r1
  exact h1 w1 σ e1 (s1.v I.ok.sub) (I.step s1 k1)⟩
theorem fs_ret {e pos te f} (he : FE X G E e te f) : FS X G E (.Return (some e) pos) (tRet te) (mRet f) := ⟨ps_ret he.pe, fun w ρ σ D I q => by
  refine he.sim w ρ σ _ I (Good.imp (Good.bind1 q) (fun x S1 h1 => ?_) fun _ _ _ h => h.step I.stp I.gok I.ok)
  intro w1 v e1 s1 k1 r1
  have I1 := I.step s1 k1
  exact h1 w1 v e1 I1.stp k1 (cut_ret I1.stp k1 r1)⟩
theorem fs_retOwn {i : Nat} {x : Str} {pos pos'} (h : PE X (.Name x pos') (tVar i)) : FS X G E (.Return (some (.Name x pos')) pos) (tRet (tVar i)) (mRetOwn i) := ⟨ps_ret h, fun w ρ σ D I q => by
  unfold mRetOwn at q
  split at q
  · rename_i o hi
    obtain ⟨p, a, b, c, d, r⟩ := I.own i o hi
    refine ⟨.ref p, a, ?_⟩
    have k2 := freeze_ok (p := p) I.ok c
    have s2 := freeze_step (p := p) I.stp (I.gok.nin d)
    exact q (w.freeze p) (.ref p) rfl s2 k2 (cut_ret s2 k2 (freeze_rv r))
  · exact q.elim⟩
theorem fs_pass {pos} : FS X G E (.Pass pos) tNext mSkip := ⟨ps_pass, fun w ρ σ D I q => q w σ rfl (VStep.refl w) I⟩
theorem fs_doc {x j pos pos'} : FS X G E (.Expr (.Constant (.str x) j pos) pos') tNext mSkip := ⟨ps_doc, fun w ρ σ D I q => q w σ rfl (VStep.refl w) I⟩
theorem fs_break {pos} : FS X G E (.Break pos) tBreak mBrk := ⟨ps_break, fun w ρ σ D I q => q w σ rfl (VStep.refl w) I⟩
theorem fs_continue {pos} : FS X G E (.Continue pos) tCont mCnt := ⟨ps_continue, fun w ρ σ D I q => q w σ rfl (VStep.refl w) I⟩
theorem fss_nil : FSs X G E [] tNext mSkip := ⟨pss_nil, fun w ρ σ D I q => q w σ rfl (VStep.refl w) I⟩
theorem fss_one {st ts f} (h : FS X G E st ts f) : FSs X G E [st] ts f := ⟨pss_one h.pe, h.sim⟩
theorem sim_seq {t u f g} (h : SSim K mg G (fun _ => E0) t f) (h2 : SSim K mg G (fun _ => E0) u g) : SSim K mg G (fun _ => E0) (tSeq t u) (mSeq f g) := fun w ρ σ D I q => by
  refine h w ρ σ { D with nx := u D } I (Good.imp (Good.bind1 q) (fun o S1 h1 => ?_) fun _ _ _ h => h)
  cases o with
  | nx ρ' =>
    intro w1 σ1 e1 s1 I1
    subst e1
    exact h2 w1 ρ' σ1 D I1 (Good.imp h1 (fun _ _ h => h.step s1) fun _ _ _ h => h)
  | bk ρ' => exact h1
  | ct ρ' => exact h1
  | rt x => exact h1
theorem fss_cons {st rest t u f g} (h : FS X G (fun _ => E0) st t f) (h2 : FSs X G (fun _ => E0) rest u g) : FSs X G (fun _ => E0) (st :: rest) (tSeq t u) (mSeq f g) := ⟨pss_cons h.pe h2.pe, sim_seq h.sim h2.sim⟩
theorem fss_frz {sts t f} (i : Nat) (h : FSs X G E sts t f) : FSs X G E sts t (mFrzS i f) := ⟨h.pe, fun w ρ σ D I q => by
  unfold mFrzS frzAt at q
  split at q
  · rename_i o hi
    obtain ⟨p, a, b, c, d, r⟩ := I.own i o hi
    exact h.sim (w.freeze p) _ σ D (I.frzOwn hi a b c d r) (Good.imp q (fun _ _ h => h.step freeze_v) fun _ _ _ h => h)
  · exact h.sim w ρ σ D I q⟩
theorem fs_if {c a b pos tc ta tb fc fa fb} (hc : FT X G E c tc fc) (ha : FSs X G E a ta fa) (hb : FSs X G E b tb fb) : FS X G E (.If c a b pos) (tIfS tc ta tb) (mIfS fc fa fb) := ⟨ps_if hc.pe ha.pe hb.pe, fun w ρ σ D I q => by
  refine hc.sim w ρ σ _ I (Good.imp (Good.bind1 q) (fun k S1 h1 => ?_) fun _ _ _ h => h.step I.stp I.gok I.ok)
  intro w1 e1 s1 k1
  subst e1
  have h1 : Good (if k then fa ρ w1.S else fb ρ w1.S) (PostS X.K G w D) (ExP X.K X.mg (E σ) G) := h1
  cases k with
  | true =>
    rw [if_pos rfl] at h1 ⊢
    exact ha.sim w1 ρ σ D (I.step s1 k1) (Good.imp h1 (fun _ _ h => h.step (s1.v I.ok.sub)) fun _ _ _ h => h)
  | false =>
    rw [if_neg Bool.false_ne_true] at h1 ⊢
    exact hb.sim w1 ρ σ D (I.step s1 k1) (Good.imp h1 (fun _ _ h => h.step (s1.v I.ok.sub)) fun _ _ _ h => h)⟩

/-! ### loops -/
def ItOk (K : PySem.W.Frag) (w1 : Wd) (J : It) (xs : List PV) : Prop := ∀ (i : Nat) w', VStep w1 w' → WOk K w' →
  (∀ x, xs[i]? = some x → J.go i w'.H ∧ ∀ v H', J.yld i w'.H v H' → ∃ w'', w''.H = H' ∧ w''.S = w'.S ∧ WStep w' w'' ∧ WOk K w'' ∧ RV K w''.L w''.hc x v) ∧ (xs.length ≤ i → J.stop i w'.H)
def ISim (K : PySem.W.Frag) (mg : Str → Option Value) (G : Wd) (E : EK) (wi : TI) (f : Rho → Store → Res (List PV)) : Prop := ∀ w ρ σ R, FI K G w ρ σ →
  Good (f ρ w.S) (fun xs S' => ∀ w1 J, w1.S = S' → WStep w w1 → WOk K w1 → ItOk K w1 J xs → R J w1.H) (ExP K mg (E σ) w) → wi σ w.H R
variable (X G E) in
structure FIt (tg iter : Expr) (wi : TI) (f : Rho → Store → Res (List PV)) : Prop where
  pe : PI X tg iter wi
  sim : ISim X.K X.mg G E wi f
theorem pi_or {tg iter : Expr} {wi wj : TI} (h : PI X tg iter wi) (h' : PI X tg iter wj) : PI X tg iter (fun σ H R => wi σ H R ∨ wj σ H R) := ⟨fun pins s σ H R I q => q.elim (h.run pins s σ H R I) (h'.run pins s σ H R I)⟩
theorem itok_list {w1 : Wd} {a : Addr} {xs : List PV} {vs : List V} (ha : SqL K w1.hc a vs) (r : RVs K w1.L w1.hc xs vs) : ItOk K w1 (Itl K a) xs := fun i w' s k => by
  have h1 : SqL K w'.H a vs := sqL_mono (fun a o h => (cut_some h).2) (sqL_mono s.ext ha)
  refine ⟨fun x e => ?_, fun e => ⟨vs, h1, by rw [r.len]; exact e⟩⟩
  obtain ⟨v, e1, e2⟩ := r.get e
  refine ⟨⟨vs, v, h1, e1⟩, fun v' H' h => ?_⟩
  obtain ⟨rfl, h⟩ := h
  refine ⟨w', rfl, rfl, WStep.refl k.sub, k, ?_⟩
  have := h vs h1
  rw [e1] at this
  cases this
  exact e2.mono s.pre s.ext
theorem itok_tup {w1 : Wd} {a : Addr} {xs : List PV} {vs : List V} (ha : SqT K w1.hc a vs) (r : RVs K w1.L w1.hc xs vs) : ItOk K w1 (Itt K a) xs := fun i w' s k => by
  have h1 : SqT K w'.H a vs := sqT_mono (fun a o h => (cut_some h).2) (sqT_mono s.ext ha)
  refine ⟨fun x e => ?_, fun e => ⟨vs, h1, by rw [r.len]; exact e⟩⟩
  obtain ⟨v, e1, e2⟩ := r.get e
  refine ⟨⟨vs, v, h1, e1⟩, fun v' H' h => ?_⟩
  obtain ⟨rfl, h⟩ := h
  refine ⟨w', rfl, rfl, WStep.refl k.sub, k, ?_⟩
  have := h vs h1
  rw [e1] at this
  cases this
  exact e2.mono s.pre s.ext
theorem hc_sqT {w : Wd} {a : Addr} {vs : List V} (h : SqT K w.hc a vs) : SqT K w.H a vs := sqT_mono (fun a o h => (cut_some h).2) h
theorem hc_sqL {w : Wd} {a : Addr} {vs : List V} (h : SqL K w.hc a vs) : SqL K w.H a vs := sqL_mono (fun a o h => (cut_some h).2) h
theorem hc_lst {w : Wd} {a : Addr} {o : HO} (h : w.hc a = some o) : w.H a = some o := (cut_some h).2
/-- for x in e: e a list or a tuple -/
theorem sim_seqOf {te f} (h : ESim K mg G E te f) : ISim K mg G E (fun σ H R => iList K te σ H R ∨ iTup K te σ H R) (mSeqOf f) := fun w ρ σ R I q => by
  have q' := Good.bind1 q
  cases e1 : f ρ w.S with
  | bad => rw [e1] at q'; exact q'.elim
  | exc c fs S =>
    refine .inl (h w ρ σ _ I ?_)
    rw [e1] at q' ⊢
    exact q'
  | ok x S =>
    rw [e1] at q'
    cases x with
    | tup xs =>
      refine .inr (h w ρ σ _ I ?_)
      rw [e1]
      intro w1 v e2 s1 k1 r1
      obtain ⟨a, vs, rfl, r2, r3⟩ := r1
      exact ⟨a, rfl, ⟨vs, hc_sqT r2⟩, q' w1 _ e2 s1 k1 (itok_tup r2 r3)⟩
    | lst xs =>
      refine .inl (h w ρ σ _ I ?_)
      rw [e1]
      intro w1 v e2 s1 k1 r1
      obtain ⟨a, vs, rfl, r2, r3⟩ := r1
      have r2 : SqL K w1.hc a vs := .inl (.inl r2)
      exact ⟨a, rfl, ⟨vs, hc_sqL r2⟩, q' w1 _ e2 s1 k1 (itok_list r2 r3)⟩
    | cl xs =>
      refine .inl (h w ρ σ _ I ?_)
      rw [e1]
      intro w1 v e2 s1 k1 r1
      obtain ⟨a, vs, rfl, r2, r3⟩ := r1
      exact ⟨a, rfl, ⟨vs, hc_sqL r2⟩, q' w1 _ e2 s1 k1 (itok_list r2 r3)⟩
    | non => exact q'.elim
    | bl b => exact q'.elim
    | int i => exact q'.elim
    | str x => exact q'.elim
    | obj n => exact q'.elim
    | dk ks xs => exact q'.elim
    | ins c ns xs => exact q'.elim
    | fn x => exact q'.elim
theorem fit_seq {tg e te f} (h : FE X G E e te f) : FIt X G E tg e (fun σ H R => iList X.K te σ H R ∨ iTup X.K te σ H R) (mSeqOf f) := ⟨pi_or (pi_list h.pe) (pi_tup h.pe), sim_seqOf h.sim⟩
theorem itok_range {w1 : Wd} {lo : Int} {n : Nat} : ItOk K w1 (Itr lo n) ((List.range n).map fun (k : Nat) => PV.int (lo + (k : Int))) := fun i w' s k => by
  refine ⟨fun x e => ?_, fun e => (show n ≤ i by simpa using e)⟩
  have hi : i < n := by have := get_lt e; simpa using this
  rw [List.getElem?_map, List.getElem?_range hi] at e
  cases e
  refine ⟨hi, fun v' H' h => ?_⟩
  obtain ⟨rfl, rfl⟩ := h
  exact ⟨w', rfl, rfl, WStep.refl k.sub, k, rfl⟩
theorem range62_of {i : Int} (h : range62 i = true) : -(2 ^ 62) ≤ i ∧ i < 2 ^ 62 := by
  unfold range62 at h
  simp only [Bool.and_eq_true, decide_eq_true_eq] at h
  omega
theorem fit_range1 {tg a p pos ta fa} (hm : X.mg "range" = none) (ha : FA X G E [a] ta fa) (hg : Gl X "range" := by rfl) (hs : starEach [a] X.env = [(false, eval a X.env)] := by rfl) : FIt X G E tg (.Call (.Name "range" p) [a] [] pos) (iRng1 ta) (mRange gRange1 fa) :=
  ⟨pi_range1 hg hm ha.pe hs, fun w ρ σ R I q => by
  refine ha.sim w ρ σ _ I (Good.imp (Good.bind1 q) (fun xs S1 h1 => ?_) fun _ _ _ h => h)
  intro w1 vs e1 s1 k1 r1
  match xs, h1, r1 with
  | [.int j], h1, r1 =>
    obtain ⟨v, r, rfl, e2, e3⟩ := r1
    have e2 : v = .int j := e2
    have e3 : r = [] := e3
    subst e2 e3
    obtain ⟨c, h2⟩ := good_if h1
    obtain ⟨c1, c2⟩ := range62_of c
    refine ⟨j, rfl, c1, c2, h2 w1 _ e1 s1 k1 ?_⟩
    have := itok_range (K := X.K) (w1 := w1) (lo := 0) (n := j.toNat)
    simpa using this⟩
theorem fit_range2 {tg a b p pos ta fa} (hm : X.mg "range" = none) (ha : FA X G E [a, b] ta fa) (hg : Gl X "range" := by rfl) (hs : starEach [a, b] X.env = [(false, eval a X.env), (false, eval b X.env)] := by rfl) (hs2 : starEach [b] X.env = [(false, eval b X.env)] := by rfl) : FIt X G E tg (.Call (.Name "range" p) [a, b] [] pos) (iRng2 ta) (mRange gRange2 fa) :=
  ⟨pi_range2 hg hm ha.pe hs hs2, fun w ρ σ R I q => by
  refine ha.sim w ρ σ _ I (Good.imp (Good.bind1 q) (fun xs S1 h1 => ?_) fun _ _ _ h => h)
  intro w1 vs e1 s1 k1 r1
  match xs, h1, r1 with
  | [.int i, .int j], h1, r1 =>
    obtain ⟨v, r, rfl, e2, v2, r2, rfl, e3, e4⟩ := r1
    have e2 : v = .int i := e2
    have e3 : v2 = .int j := e3
    have e4 : r2 = [] := e4
    subst e2 e3 e4
    obtain ⟨c, h2⟩ := good_if h1
    rw [Bool.and_eq_true] at c
    obtain ⟨c1, c2⟩ := range62_of c.1
    obtain ⟨c3, c4⟩ := range62_of c.2
    exact ⟨i, j, rfl, ⟨c1, c2, c3, c4⟩, h2 w1 _ e1 s1 k1 itok_range⟩⟩
theorem fs_for {tg iter body pos wi g tb fi fg fb} (hi : FIt X G (fun _ => E0) tg iter wi fi) (hg : FG X G E0 tg g fg) (hb : FSs X G (fun _ => E0) body tb fb) (pe : PS X (.For tg iter body [] pos) (tFor wi g tb)) : FS X G (fun _ => E0) (.For tg iter body [] pos) (tFor wi g tb) (mFor fi fg fb) := ⟨pe, fun w ρ σ D I q => by
  refine hi.sim w ρ σ _ I (Good.imp (Good.bind1 q) (fun xs S1 h1 => ?_) fun _ _ _ h => h.step I.stp I.gok I.ok)
  intro w1 J e1 s1 k1 it
  subst e1
  refine ⟨fun i m σ H => ∃ w2 ρ2, w2.H = H ∧ FI X.K G w2 ρ2 σ ∧ VStep w1 w2 ∧ m + i = xs.length ∧ Good (mForGo fg fb (xs.drop i) ρ2 w2.S) (PostS X.K G w2 D) (ExP X.K X.mg E0 G), ⟨xs.length, w1, ρ, rfl, I.step s1 k1, VStep.refl _, rfl, Good.imp h1 (fun _ _ h => h.step (s1.v I.ok.sub)) fun _ _ _ h => h⟩, ?_⟩
  rintro i m σ2 H2 ⟨w2, ρ2, rfl, I2, v2, em, h2⟩
  by_cases hx : i < xs.length
  · have ed : xs.drop i = xs[i] :: xs.drop (i + 1) := (List.getElem_cons_drop hx).symm
    rw [ed] at h2
    obtain ⟨go, yl⟩ := (it i w2 v2 I2.ok).1 xs[i] (List.getElem?_eq_getElem hx)
    refine .inr ⟨go, fun σ' H' => ∃ w3 ρ3, w3.H = H' ∧ FI X.K G w3 ρ3 σ' ∧ VStep w1 w3 ∧ Good (mForGo fg fb (xs.drop (i + 1)) ρ3 w3.S) (PostS X.K G w3 D) (ExP X.K X.mg E0 G), ?_, fun v H' hy => ?_⟩
    · rintro σ' H' ⟨w3, ρ3, a, b, c, d⟩
      exact ⟨m - 1, by omega, w3, ρ3, a, b, c, by omega, d⟩
    · obtain ⟨w3, rfl, es, s3, k3, r3⟩ := yl v H' hy
      rw [← es] at h2
      have v3 := v2.trans (s3.v I2.ok.sub)
      refine hg.sim w3 ρ2 σ2 xs[i] v _ (I2.step s3 k3) r3 (Good.imp (Good.bind1 h2) (fun ρ4 S4 h4 => ?_) fun _ _ _ h => h)
      intro w4 σ4 e4 s4 I4
      subst e4
      refine hb.sim w4 ρ4 σ4 _ I4 (Good.imp (Good.bind1 h4) (fun o S5 h5 => ?_) fun _ _ _ h => h)
      have v24 : VStep w2 w4 := (s3.v I2.ok.sub).trans s4
      cases o with
      | nx ρ5 =>
        intro w5 σ5 e5 s5 I5
        subst e5
        exact ⟨w5, ρ5, rfl, I5, (v3.trans s4).trans s5, Good.imp h5 (fun _ _ h => h.step (v24.trans s5)) fun _ _ _ h => h⟩
      | ct ρ5 =>
        intro w5 σ5 e5 s5 I5
        subst e5
        exact ⟨w5, ρ5, rfl, I5, (v3.trans s4).trans s5, Good.imp h5 (fun _ _ h => h.step (v24.trans s5)) fun _ _ _ h => h⟩
      | bk ρ5 =>
        intro w5 σ5 e5 s5 I5
        exact h5 w5 σ5 e5 (v24.trans s5) I5
      | rt x => exact h5
  · refine .inl ⟨(it i w2 v2 I2.ok).2 (by omega), ?_⟩
    rw [List.drop_eq_nil_of_le (by omega)] at h2
    exact h2 w2 σ2 rfl (VStep.refl _) I2⟩
theorem fs_while {c body pos tc tb fc fb} (n : Nat) (hc : FT X G (fun _ => E0) c tc fc) (hb : FSs X G (fun _ => E0) body tb fb) (hp : PassesOwn (model X.prog X.w) X.A X.env X.xe) : FS X G (fun _ => E0) (.While c body [] pos) (tWhile tc tb) (mWhile n fc fb) := ⟨ps_while hp hc.pe hb.pe, fun w ρ σ D I q => by
  refine ⟨fun m σ H => ∃ w2 ρ2, w2.H = H ∧ FI X.K G w2 ρ2 σ ∧ Good (mWhileGo fc fb m ρ2 w2.S) (PostS X.K G w2 D) (ExP X.K X.mg E0 G), ⟨n, w, ρ, rfl, I, q⟩, ?_⟩
  rintro m σ2 H2 ⟨w2, ρ2, rfl, I2, h2⟩
  cases m with
  | zero => exact h2.elim
  | succ m =>
    refine hc.sim w2 ρ2 σ2 _ I2 (Good.imp (Good.bind1 h2) (fun k S3 h3 => ?_) fun _ _ _ h => h.step I2.stp I2.gok I2.ok)
    intro w3 e3 s3 k3
    subst e3
    have I3 := I2.step s3 k3
    have v3 := s3.v I2.ok.sub
    cases k with
    | false =>
      rw [if_neg Bool.false_ne_true] at h3 ⊢
      exact h3 w3 σ2 rfl v3 I3
    | true =>
      rw [if_pos rfl] at h3 ⊢
      refine ⟨fun σ' H' => ∃ w4 ρ4, w4.H = H' ∧ FI X.K G w4 ρ4 σ' ∧ Good (mWhileGo fc fb m ρ4 w4.S) (PostS X.K G w4 D) (ExP X.K X.mg E0 G), fun σ' H' h => ⟨m, Nat.lt_succ_self m, h⟩, ?_⟩
      refine hb.sim w3 ρ2 σ2 _ I3 (Good.imp (Good.bind1 h3) (fun o S5 h5 => ?_) fun _ _ _ h => h)
      cases o with
      | nx ρ5 =>
        intro w5 σ5 e5 s5 I5
        subst e5
        exact ⟨w5, ρ5, rfl, I5, Good.imp h5 (fun _ _ h => h.step (v3.trans s5)) fun _ _ _ h => h⟩
      | ct ρ5 =>
        intro w5 σ5 e5 s5 I5
        subst e5
        exact ⟨w5, ρ5, rfl, I5, Good.imp h5 (fun _ _ h => h.step (v3.trans s5)) fun _ _ _ h => h⟩
      | bk ρ5 =>
        intro w5 σ5 e5 s5 I5
        exact h5 w5 σ5 e5 (v3.trans s5) I5
      | rt x => exact h5⟩
end
end Mir
set_option maxHeartbeats 4000000
/-! Mir4: comprehensions, stores, defs and calls. -/
namespace Mir
open PySem PySem.Spec PyProof.Rows L2

theorem wipe_at : ∀ {vs : List Nat} {σ : L2.St} {i : Nat}, i ∈ vs → i < σ.length → (wipe σ vs)[i]? = some none
  | v :: vs, σ, i, h, hl => by
    unfold wipe
    by_cases e : v = i
    · subst e
      rw [List.getElem?_set_self (by rw [wipe_length]; exact hl)]
    · rw [List.getElem?_set_ne e]
      exact wipe_at ((List.mem_cons.mp h).resolve_left (Ne.symm e)) hl
/-- what is stored at the block's own names goes away -/
theorem wipe_wipe (σ σ2 : L2.St) (vs : List Nat) (hl : σ2.length = σ.length) (h : ∀ i, i ∉ vs → σ2[i]? = (wipe σ vs)[i]?) : wipe σ2 vs = wipe (wipe σ vs) vs ∧ wipe (wipe σ vs) vs = wipe σ vs := by
  have key : ∀ a b : L2.St, a.length = b.length → (∀ i, i ∉ vs → a[i]? = b[i]?) → wipe a vs = wipe b vs := fun a b e q => by
    apply List.ext_getElem?
    intro i
    by_cases m : i ∈ vs
    · by_cases li : i < a.length
      · rw [wipe_at m li, wipe_at m (e ▸ li)]
      · rw [List.getElem?_eq_none (by rw [wipe_length]; omega), List.getElem?_eq_none (by rw [wipe_length]; omega)]
    · rw [wipe_out m, wipe_out m]
      exact q i m
  exact ⟨key _ _ (by rw [wipe_length]; exact hl) h, key _ _ (wipe_length _ _) fun i m => wipe_out m⟩
theorem FI.wipe {K G w ρ σ} (I : FI K G w ρ σ) : ∀ vs, FI K G w (mWipe ρ vs) (L2.wipe σ vs)
  | [] => I
  | _ :: vs => (I.wipe vs).wipe1
/-- a target's sim: besides, which slots it stores -/
def GtSim (K : PySem.W.Frag) (mg : Str → Option Value) (G : Wd) (g : TG) (f : PV → Rho → Store → Res Rho) (vs : List Nat) : Prop := ∀ w ρ σ x v Q, FI K G w ρ σ → RV K w.L w.hc x v → Good (f x ρ w.S) (fun ρ' S' => ∀ σ', S' = w.S → σ'.length = σ.length → (∀ i, i ∉ vs → σ'[i]? = σ[i]?) → FI K G w ρ' σ' → Q σ' w.H) (fun _ _ _ => False) → g v σ w.H Q
variable (X : Cx) (G : Wd) in
structure FGt (e : Expr) (g : TG) (f : PV → Rho → Store → Res Rho) (vs : List Nat) : Prop where
  pe : PG X e g
  sim : GtSim X.K X.mg G g f vs
def GtsSim (K : PySem.W.Frag) (mg : Str → Option Value) (G : Wd) (g : TGs) (f : List PV → Rho → Store → Res Rho) (vs : List Nat) : Prop := ∀ w ρ σ xs us Q, FI K G w ρ σ → RVs K w.L w.hc xs us → Good (f xs ρ w.S) (fun ρ' S' => ∀ σ', S' = w.S → σ'.length = σ.length → (∀ i, i ∉ vs → σ'[i]? = σ[i]?) → FI K G w ρ' σ' → Q σ' w.H) (fun _ _ _ => False) → g us σ w.H Q
variable (X : Cx) (G : Wd) in
structure FGts (e : List Expr) (g : TGs) (f : List PV → Rho → Store → Res Rho) (vs : List Nat) : Prop where
  pe : PGs X e g
  sim : GtsSim X.K X.mg G g f vs
theorem gt_name {X : Cx} {G : Wd} {i : Nat} {x : Str} {pos : Pos} {vs : List Nat} (h : PG X (.Name x pos) (gName i)) (hv : i ∈ vs := by decide) : FGt X G (.Name x pos) (gName i) (gNm i) vs := ⟨h, fun w ρ σ x v Q I r g =>
  g (σ.set i (some v)) rfl (List.length_set ..) (fun j hj => by rw [List.getElem?_set_ne fun e => hj (by rw [← e]; exact hv)]) (I.set r)⟩
theorem gts_nil {X : Cx} {G : Wd} {vs : List Nat} : FGts X G [] gNil gsNil vs := ⟨pgs_nil, fun w ρ σ xs us Q I r g => by
  cases xs with
  | nil => exact ⟨r, g σ rfl rfl (fun _ _ => rfl) I⟩
  | cons x xs => exact g.elim⟩
theorem gts_cons {X : Cx} {G : Wd} {vs : List Nat} {e es t u f g} (h1 : FGt X G e t f vs) (h2 : FGts X G es u g vs) (pe : PGs X (e :: es) (gCons t u)) : FGts X G (e :: es) (gCons t u) (gsCons f g) vs := ⟨pe, fun w ρ σ xs us Q I r q => by
  cases xs with
  | nil => exact q.elim
  | cons x xs =>
    obtain ⟨v, rs, rfl, r1, r2⟩ := r
    refine ⟨v, rs, rfl, h1.sim w ρ σ x v _ I r1 (Good.imp (Good.bind1 q) (fun ρ1 S1 q1 => ?_) fun _ _ _ h => h)⟩
    intro σ1 e1 l1 f1 I1
    subst e1
    exact h2.sim w ρ1 σ1 xs rs Q I1 r2 (Good.imp q1 (fun ρ2 S2 q2 σ2 e2 l2 f2 I2 => q2 σ2 e2 (l2.trans l1) (fun i hi => (f2 i hi).trans (f1 i hi)) I2) fun _ _ _ h => h)⟩
theorem gt_tup {X : Cx} {G : Wd} {vs : List Nat} {es k t pos f} {n : Nat} (h : FGts X G es t f vs) (pe : PG X (.Tuple es k pos) (L2.gTup X.K n t)) : FGt X G (.Tuple es k pos) (L2.gTup X.K n t) (gTupM n f) vs := ⟨pe, fun w ρ σ x v Q I r q => by
  cases x <;> first | exact q.elim | skip
  rename_i xs
  obtain ⟨a, us, rfl, r1, r2⟩ := r
  obtain ⟨hn, q⟩ := good_if q
  exact ⟨a, us, rfl, hc_sqT r1, r2.len.trans hn, h.sim w ρ σ xs us Q I r2 q⟩⟩
variable (X : Cx) (G : Wd) (E : EK) in
structure FTs (es : List Expr) (te : TT) (f : Rho → Store → Res Bool) : Prop where
  pe : PTs X es te
  sim : TSim X.K X.mg G E te f
theorem fts_nil {X : Cx} {G : Wd} {E : EK} : FTs X G E [] tYes mTrue := ⟨pts_nil, fun w ρ σ Q I h => h w rfl (WStep.refl I.ok.sub) I.ok⟩
theorem fts_one {X : Cx} {G : Wd} {E : EK} {c t f} (h : FT X G E c t f) : FTs X G E [c] t f := ⟨pts_one h.pe, h.sim⟩

theorem sim_lc {K : PySem.W.Frag} {mg : Str → Option Value} {G : Wd} {E : EK} {wi g tt te vs fi fg ft fe} (hi : ISim K mg G E wi fi) (hg : GtSim K mg G g fg vs) (ht : TSim K mg G (fun _ => E0) tt ft) (he : ESim K mg G (fun _ => E0) te fe) :
    NSim K mg G E (tLc wi g tt te vs) (mLc fi fg ft fe vs) := fun w ρ σ Q I q => by
  refine hi w ρ σ _ I (Good.imp (Good.bind1 q) (fun xs S1 h1 => ?_) fun _ _ _ h => h)
  intro w1 J e1 s1 k1 it D hD
  subst e1
  obtain ⟨hsz, h1⟩ := good_if h1
  have k2 := laid_ok (o := .lst []) k1 hD
  have s2 := laid_step (o := .lst []) k1 hD
  have hDL : D ∉ w1.L := k1.ninL hD
  have hDw : w.H D = none := by
    cases e : w.H D with
    | none => rfl
    | some o =>
      by_cases z : D ∈ w.L
      · exact absurd (s1.pre.subset z) hDL
      · rw [s1.keep D o e z] at hD; cases hD
  have I1 := I.step s1 k1
  refine ⟨fun i m H => ∃ w2 pacc acc, w2.H = H ∧ WStep w w2 ∧ WOk K w2 ∧ VStep w1 w2 ∧ D ∈ w2.O ∧ D ∉ w2.L ∧ w2.H D = some (.lst acc) ∧ RVs K w2.L w2.hc pacc acc ∧ acc.length ≤ i ∧ m + i = xs.length ∧ FI K G w2 (mWipe ρ vs) (wipe σ vs) ∧
    Good (mLcGo fg ft fe (mWipe ρ vs) (xs.drop i) w2.S) (fun ys S' => PostN K w Q (.lst (pacc ++ ys)) S') (ExP K mg (E σ) w),
    ⟨xs.length, w1.laid D (.lst []), [], [], rfl, s1.tr s2 I.ok k1, k2, s2.v k1.sub, List.mem_cons_self, hDL, by show upd w1.H D _ D = _; rw [upd_same], rfl, Nat.le_refl _, rfl, (I1.step s2 k2).wipe vs, Good.bind1 h1⟩, ?_⟩
  rintro i m H2 ⟨w2, pacc, acc, rfl, s2', k2', v2, hO, hL, hD2, racc, hlen, em, I2, h2⟩
  by_cases hx : i < xs.length
  · have ed : xs.drop i = xs[i] :: xs.drop (i + 1) := (List.getElem_cons_drop hx).symm
    rw [ed] at h2
    obtain ⟨go, yl⟩ := (it i w2 v2 k2').1 xs[i] (List.getElem?_eq_getElem hx)
    refine .inr ⟨go, fun H' => ∃ w3 pacc acc, w3.H = H' ∧ WStep w w3 ∧ WOk K w3 ∧ VStep w1 w3 ∧ D ∈ w3.O ∧ D ∉ w3.L ∧ w3.H D = some (.lst acc) ∧ RVs K w3.L w3.hc pacc acc ∧ acc.length ≤ i + 1 ∧ FI K G w3 (mWipe ρ vs) (wipe σ vs) ∧
      Good (mLcGo fg ft fe (mWipe ρ vs) (xs.drop (i + 1)) w3.S) (fun ys S' => PostN K w Q (.lst (pacc ++ ys)) S') (ExP K mg (E σ) w), ?_, fun v H' hy => ?_⟩
    · rintro H' ⟨w3, p3, a3, c1, c2, c3, c4, c5, c6, c7, c8, c9, c10, c11⟩
      exact ⟨m - 1, by omega, w3, p3, a3, c1, c2, c3, c4, c5, c6, c7, c8, c9, by omega, c10, c11⟩
    · obtain ⟨w3, rfl, es, s3, k3, r3⟩ := yl v H' hy
      rw [← es] at h2
      have I3 := I2.step s3 k3
      have h3 := Good.nox (ex' := fun _ _ _ => False) (Good.bind1 h2)
      refine hg w3 _ _ xs[i] v _ I3 r3 (Good.imp h3 (fun ρ4 S4 h4 => ?_) fun _ _ _ h => h)
      intro σ4 e4 l4 f4 I4
      subst e4
      have wp := wipe_wipe σ σ4 vs (by rw [l4, wipe_length]) f4
      refine ⟨wp.1.trans wp.2, ?_⟩
      have h4' := Good.nox (ex' := ExP K mg E0 w3) (Good.bind1 h4)
      refine ht w3 ρ4 σ4 _ I4 (Good.imp h4' (fun b S5 h5 => ?_) fun _ _ _ h => h)
      intro w5 e5 s5 k5
      subst e5
      have s25 := s3.tr s5 k2' k3
      cases b with
      | false =>
        rw [if_neg Bool.false_ne_true] at h5 ⊢
        have hD5 : w5.H D = some (.lst acc) := s25.keep D _ hD2 hL
        refine ⟨w5, pacc, acc, rfl, s2'.tr s25 I.ok k2', k5, v2.trans (s25.v k2'.sub), s25.omono D hO, fun z => ?_, hD5, racc.mono s25.pre (s25.ext k2'.sub), by omega, I2.step s25 k5, h5⟩
        rcases s25.lset D z with y | y
        · exact hL y
        · rw [hD2] at y; cases y
      | true =>
        rw [if_pos rfl] at h5 ⊢
        have h5' := Good.nox (ex' := ExP K mg E0 w5) (Good.bind1 h5)
        refine he w5 ρ4 σ4 _ (I4.step s5 k5) (Good.imp h5' (fun y S6 h6 => ?_) fun _ _ _ h => h)
        intro w6 u e6 s6 k6 r6
        subst e6
        have s26 := s25.tr s6 k2' k5
        have hD6 : w6.H D = some (.lst acc) := s26.keep D _ hD2 hL
        have hL6 : D ∉ w6.L := fun z => by
          rcases s26.lset D z with y | y
          · exact hL y
          · rw [hD2] at y; cases y
        have hO6 := s26.omono D hO
        have v7 : VStep w6 (w6.wr D (.lst (acc ++ [u]))) := wr_v hO6
        have k7 := wr_ok (ho := .lst (acc ++ [u])) k6 hO6 hL6
        have I6 := I2.step s26 k6
        have hGD : G.H D = none := by
          cases e : G.H D with
          | none => rfl
          | some o =>
            by_cases z : D ∈ G.L
            · exact absurd ((I.stp.pre.trans s1.pre).subset z) hDL
            · rw [I.stp.keep D o e z] at hDw; cases hDw
        refine ⟨acc, hD6, Nat.lt_of_le_of_lt hlen (Nat.lt_of_lt_of_le hx (sizeM_le hsz)), w6.wr D (.lst (acc ++ [u])), pacc ++ [y], acc ++ [u], rfl, wr_step (s2'.tr s26 I.ok k2') hDw, k7, (v2.trans (s26.v k2'.sub)).trans v7, hO6, hL6, by show upd w6.H D _ D = _; rw [upd_same], ?_, by simp; omega, ?_, ?_⟩
        · rw [wr_hc hO6]
          exact RVs.append (racc.mono s26.pre (s26.ext k2'.sub)) (RVs.one r6)
        · refine ⟨I6.gok, k7, wr_step I6.stp hGD, I6.len, fun j x e => ?_, fun j o e => ?_, I6.dis, fun j c fs e => ?_⟩
          · rw [wr_hc hO6]; exact I6.val j x e
          · rw [wr_hc hO6]
            obtain ⟨p, a, b, c, d, r⟩ := I6.own j o e
            have np : p ≠ D := fun z => by
              obtain ⟨p', a', b', _⟩ := (I1.wipe vs).own j o e
              rw [a'] at a
              cases a
              rw [z] at b'
              exact k1.nin hD b'
            exact ⟨p, a, b, c, d, by show SOk K w6.L w6.hc (upd w6.H D _ p) o; rw [upd_ne np]; exact r⟩
          · rw [wr_hc hO6]; exact I6.pin j c fs e
        · refine Good.imp (Good.bind1 h6) (fun ys S7 h7 => ?_) fun _ _ _ h => h
          rw [List.append_assoc]
          exact h7
  · refine .inl ⟨(it i w2 v2 k2').2 (by omega), ?_⟩
    rw [List.drop_eq_nil_of_le (by omega)] at h2
    have h2 : PostN K w Q (.lst (pacc ++ [])) w2.S := h2
    rw [List.append_nil] at h2
    exact h2 w2 D rfl s2' k2' hDw hO hL ⟨acc, hD2, racc⟩
theorem fn_lc {X : Cx} {G : Wd} {E : EK} {elt tg iter : Expr} {ifs : List Expr} {scope : Scope} {pos : Pos} {wi g tt te fi fg ft fe} (own : List (Str × Nat)) (hc : X.calm = true) (hN : X.N.Nodup) (ok : BlkOk X.N X.env.scope scope own) (hi : FIt X G E tg iter wi fi)
    (hg : ∀ (s : Shared) (H : Hp) (C : Addr) (cl : List (Str × Addr)) (fp : List Addr), FGt (X.blk s H scope (compEnvC scope cl C X.env) fp) G tg g fg (own.map (·.2)))
    (ht : ∀ (s : Shared) (H : Hp) (C : Addr) (cl : List (Str × Addr)) (fp : List Addr), FTs (X.blk s H scope (compEnvC scope cl C X.env) fp) G (fun _ => E0) ifs tt ft)
    (he : ∀ (s : Shared) (H : Hp) (C : Addr) (cl : List (Str × Addr)) (fp : List Addr), FE (X.blk s H scope (compEnvC scope cl C X.env) fp) G (fun _ => E0) elt te fe) (hs : ∀ x, foldedSetIterable iter X.env x = pure x := by intro _; rfl) :
    FN X G E (.ListComp elt [⟨tg, iter, ifs, 0⟩] scope pos) (tLc wi g tt te (own.map (·.2))) (mLc fi fg ft fe (own.map (·.2))) :=
  ⟨pe_lc hc hN hi.pe ok (fun s H C cl fp => (hg s H C cl fp).pe) (fun s H C cl fp => (ht s H C cl fp).pe) (fun s H C cl fp => (he s H C cl fp).pe) hs,
   sim_lc hi.sim (hg X.s_0 X.H_0 0 [] []).sim (ht X.s_0 X.H_0 0 [] []).sim (he X.s_0 X.H_0 0 [] []).sim⟩
/-- y = [..] : the statement's own derivation, with what the list is worth -/
structure FLcS (X : Cx) (G : Wd) (E : EK) (st : Stmt) (i : Nat) (te : TE) (f : Rho → Store → Res SO) : Prop where
  pe : PS X st (tAsg te (gName i))
  sim : NSim X.K X.mg G E te f
theorem fs_lc {X : Cx} {G : Wd} {E : EK} {elt tg iter : Expr} {ifs : List Expr} {scope : Scope} {pos spos py : Pos} {y : Str} {wi g tt te fi fg ft fe} (i : Nat) (own : List (Str × Nat)) (hc : X.calm = true) (hN : X.N.Nodup) (hy : X.N[i]? = some y) (hyl : X.env.scope.names.lookup y = some .local)
    (hsw : swapsWith (.ListComp elt [⟨tg, iter, ifs, 0⟩] scope pos) (some (.Name y py)) spos.line X.env = pure true) (ok : BlkOk X.N X.env.scope scope own) (hi : FIt X G E tg iter wi fi)
    (hg : ∀ (s : Shared) (H : Hp) (C : Addr) (cl : List (Str × Addr)) (fp : List Addr), FGt (X.blk s H scope (compEnvC scope cl C X.env) fp) G tg g fg (own.map (·.2)))
    (ht : ∀ (s : Shared) (H : Hp) (C : Addr) (cl : List (Str × Addr)) (fp : List Addr), FTs (X.blk s H scope (compEnvC scope cl C X.env) fp) G (fun _ => E0) ifs tt ft)
    (he : ∀ (s : Shared) (H : Hp) (C : Addr) (cl : List (Str × Addr)) (fp : List Addr), FE (X.blk s H scope (compEnvC scope cl C X.env) fp) G (fun _ => E0) elt te fe) (hs : ∀ x, foldedSetIterable iter X.env x = pure x := by intro _; rfl) :
    FLcS X G E (.Assign [.Name y py] (.ListComp elt [⟨tg, iter, ifs, 0⟩] scope pos) spos) i (tLc wi g tt te (own.map (·.2))) (mLc fi fg ft fe (own.map (·.2))) :=
  ⟨ps_setLc hc hN hy hyl hsw hi.pe ok (fun s H C cl fp => (hg s H C cl fp).pe) (fun s H C cl fp => (ht s H C cl fp).pe) (fun s H C cl fp => (he s H C cl fp).pe) hs,
   sim_lc hi.sim (hg X.s_0 X.H_0 0 [] []).sim (ht X.s_0 X.H_0 0 [] []).sim (he X.s_0 X.H_0 0 [] []).sim⟩
theorem FLcS.own {X G E st i te f} (h : FLcS X G E st i te f) : FS X G E st (tAsg te (gName i)) (mSetOwn i f) := ⟨h.pe, sim_setOwn h.sim⟩
theorem FLcS.val {X G E st i te f} (h : FLcS X G E st i te f) : FS X G E st (tAsg te (gName i)) (mSet i (mFrz f)) := ⟨h.pe, sim_set (sim_frz h.sim)⟩

end Mir
set_option maxHeartbeats 4000000
/-! Mir5: operators, built-ins, defs and calls. -/
namespace Mir
open PySem PySem.Spec PyProof.Rows L2

/-! ### what operators make of pure values -/
def pow64 : Int := 18446744073709551616
def small64 (i : Int) : Bool := decide (-pow64 < i) && decide (i < pow64)
theorem small64_of {i : Int} (h : small64 i = true) : -(2 ^ 64) < i ∧ i < 2 ^ 64 := by
  unfold small64 pow64 at h
  simp only [Bool.and_eq_true, decide_eq_true_eq] at h
  omega
def gAdd : PV → PV → Store → Res PV
  | .int i, .int j, S => .ok (.int (i + j)) S
  | .str a, .str b, S => if a.length + b.length ≤ sizeM then .ok (.str (a ++ b)) S else .bad
  | .tup xs, .tup ys, S => if xs.length + ys.length ≤ sizeM then .ok (.tup (xs ++ ys)) S else .bad
  | _, _, _ => .bad
def gCat : PV → PV → Store → Res SO
  | .lst xs, .lst ys, S => if xs.length + ys.length ≤ sizeM then .ok (.lst (xs ++ ys)) S else .bad
  | _, _, _ => .bad
def gRep : PV → PV → Store → Res SO
  | .lst xs, .int k, S => if (decide (xs.length * k.toNat ≤ sizeM) && decide (-1000000 ≤ k) && decide (k ≤ 1000000)) = true then .ok (.lst (List.replicate k.toNat xs).flatten) S else .bad
  | _, _, _ => .bad
def gSub : PV → PV → Store → Res PV
  | .int i, .int j, S => .ok (.int (i - j)) S
  | _, _, _ => .bad
def gMul : PV → PV → Store → Res PV
  | .int i, .int j, S => if (small64 i || small64 j) = true then .ok (.int (i * j)) S else .bad
  | _, _, _ => .bad
def gFdiv : PV → PV → Store → Res PV
  | .int i, .int j, S => if (decide (0 < j) && decide (j < 1073741824)) = true then .ok (.int (i / j)) S else .bad
  | _, _, _ => .bad
def gMod : PV → PV → Store → Res PV
  | .int i, .int j, S => if 0 < j then .ok (.int (i % j)) S else .bad
  | _, _, _ => .bad
def cpow (i j : Int) : Bool := decide (0 ≤ j) && decide (j ≤ 1000) && small64 i
def gPow : PV → PV → Store → Res PV
  | .int i, .int j, S => if cpow i j = true then .ok (.int (i ^ j.toNat)) S else .bad
  | _, _, _ => .bad
def gShl : PV → PV → Store → Res PV
  | .int i, .int j, S => if cpow i j = true then .ok (.int (i * 2 ^ j.toNat)) S else .bad
  | _, _, _ => .bad
def gLt : PV → PV → Store → Res PV
  | .int i, .int j, S => .ok (.bl (decide (i < j))) S
  | _, _, _ => .bad
def gLe : PV → PV → Store → Res PV
  | .int i, .int j, S => .ok (.bl (decide (i ≤ j))) S
  | _, _, _ => .bad
def gGt : PV → PV → Store → Res PV
  | .int i, .int j, S => .ok (.bl (decide (j < i))) S
  | _, _, _ => .bad
def gGe : PV → PV → Store → Res PV
  | .int i, .int j, S => .ok (.bl (decide (j ≤ i))) S
  | _, _, _ => .bad
def toV : PV → Option V
  | .non => some .non
  | .bl b => some (.bl b)
  | .int i => some (.int i)
  | .str x => some (.str x)
  | _ => none
/-- == of scalars -/
def gEq (neg : Bool) (x y : PV) (S : Store) : Res PV := match toV x, toV y with
  | some v, some u => if scal v u = true then .ok (.bl (if neg then !decide (v = u) else decide (v = u))) S else .bad
  | _, _ => .bad
def gIs (neg : Bool) : PV → PV → Store → Res PV
  | .non, .non, S => .ok (.bl (!neg)) S
  | _, .non, S => .ok (.bl neg) S
  | _, _, _ => .bad
def items : PV → Option (List PV)
  | .tup xs => some xs
  | .lst xs => some xs
  | .cl xs => some xs
  | _ => none
/-- in, not in: flat items -/
def gIn (neg : Bool) (x y : PV) (S : Store) : Res PV := match toV x, items y with
  | some v, some ys => match ys.mapM toV with
    | some us => .ok (.bl (if neg then !inV v us else inV v us)) S
    | none => .bad
  | _, _ => .bad
def gNeg : PV → Store → Res PV
  | .int i, S => .ok (.int (-i)) S
  | _, _ => .bad
/-- x[k] -/
def gIx : PV → PV → Store → Res PV
  | .tup xs, .int k, S => match atI xs k with | some y => .ok y S | none => .bad
  | .lst xs, .int k, S => match atI xs k with | some y => .ok y S | none => .bad
  | .cl xs, .int k, S => match atI xs k with | some y => .ok y S | none => .bad
  | .obj n, .int k, S => match S[n]? with
    | some (.lst xs) => match atI xs k with | some y => .ok y S | none => .bad
    | _ => .bad
  | .str z, .int k, S => if z.length ≤ sizeM then (match atI z.cps.toList k with | some c => .ok (.str ⟨#[c]⟩) S | none => .bad) else .bad
  | _, _, _ => .bad
def cutP (xs : List PV) (lo hi : Option Int) : List PV := (xs.drop (HT.sIx xs.length 0 lo)).take (HT.sIx xs.length xs.length hi - HT.sIx xs.length 0 lo)
/-- t[i:j] -/
def gSl : PV → Option Int → Option Int → Store → Res PV
  | .tup xs, i, j, S => .ok (.tup (cutP xs i j)) S
  | .str z, i, j, S => if z.length ≤ sizeM then .ok (.str (cutS z i j)) S else .bad
  | .lst xs, i, j, S => .ok (.lst (cutP xs i j)) S
  | _, _, _, _ => .bad
def gLen : List PV → Store → Res PV
  | [.tup xs], S => .ok (.int xs.length) S
  | [.lst xs], S => .ok (.int xs.length) S
  | [.cl xs], S => .ok (.int xs.length) S
  | [.str z], S => if z.length ≤ sizeM then .ok (.int z.length) S else .bad
  | [.obj n], S => match S[n]? with
    | some (.lst xs) => .ok (.int xs.length) S
    | _ => .bad
  | _, _ => .bad
def gInt : List PV → Store → Res PV
  | [.int i], S => .ok (.int i) S
  | [.bl b], S => .ok (.int (if b then 1 else 0)) S
  | _, _ => .bad
def gAbs : List PV → Store → Res PV
  | [.int i], S => .ok (.int (if i < 0 then -i else i)) S
  | _, _ => .bad
def gTuple : List PV → Store → Res PV
  | [.tup xs], S => .ok (.tup xs) S
  | [.lst xs], S => .ok (.tup xs) S
  | [.cl xs], S => .ok (.tup xs) S
  | _, _ => .bad
def gList : List PV → Store → Res SO
  | [.tup xs], S => .ok (.lst xs) S
  | [.lst xs], S => .ok (.lst xs) S
  | [.cl xs], S => .ok (.lst xs) S
  | _, _ => .bad
def toBl : PV → Option Bool
  | .bl b => some b
  | _ => none
def toI : PV → Option Int
  | .int b => some b
  | _ => none
def lexGe : List Int → List Int → Bool
  | _, [] => true
  | [], _ :: _ => false
  | a :: as, b :: bs => if a = b then lexGe as bs else decide (b ≤ a)
/-- a >= b of ints, of tuples of ints -/
def gGeA : PV → PV → Store → Res PV
  | .tup xs, .tup ys, S => (match xs.mapM toI, ys.mapM toI with
    | some ns, some ms => .ok (.bl (lexGe ns ms)) S
    | _, _ => .bad)
  | x, y, S => gGe x y S
def gAll : List PV → Store → Res PV
  | [.lst xs], S => match xs.mapM toBl with | some bs => .ok (.bl (bs.all id)) S | none => .bad
  | _, _ => .bad
def gAny : List PV → Store → Res PV
  | [.lst xs], S => match xs.mapM toBl with | some bs => .ok (.bl (bs.any id)) S | none => .bad
  | _, _ => .bad
def gSumL : List PV → Store → Res PV
  | [.lst xs], S => match xs.mapM toI with | some bs => .ok (.int bs.sum) S | none => .bad
  | _, _ => .bad
def tyP : PV → Option String
  | .non => some "NoneType"
  | .bl _ => some "bool"
  | .int _ => some "int"
  | .str _ => some "str"
  | .tup _ => some "tuple"
  | .lst _ => some "list"
  | .cl _ => some "list"
  | .dk _ _ => some "dict"
  | _ => none
def gIsi (T : String) (x : PV) (S : Store) : Res PV := match tyP x with
  | some a => match kitB a T with
    | some b => .ok (.bl b) S
    | none => .bad
  | none => .bad

section
variable {K : PySem.W.Frag} {mg : Str → Option Value} {E : XK} {w : Wd} {Q : VK}
theorem post_self {x : PV} {v : V} {S : Store} (k : WOk K w) (h : PostV K w Q x S) (hS : w.S = S) (r : RV K w.L w.hc x v) : Q v w.H := h w v hS (WStep.refl k.sub) k r
/-- an own def of cases -/
theorem r2_add : R2Sim K mg E (fun x y H Q => rI0 (fun i j => .int (i + j)) x y H Q ∨ ((∃ i j, x = V.str i ∧ y = .str j ∧ i.length + j.length ≤ sizeLine ∧ Q (.str (i ++ j)) H) ∨ rCatA K x y H Q)) gAdd := fun w x y v u Q k rx ry g => by
  cases x <;> cases y <;> first | exact g.elim | skip
  · exact .inl ⟨_, _, rx, ry, post_self k g rfl rfl⟩
  · obtain ⟨c, g⟩ := good_if g
    exact .inr (.inl ⟨_, _, rx, ry, sizeM_le c, post_self k g rfl rfl⟩)
  · obtain ⟨c, g⟩ := good_if g
    obtain ⟨a, vs, rfl, r1, r2⟩ := rx
    obtain ⟨b, us, rfl, r3, r4⟩ := ry
    rename_i xs ys _
    have g : PostV K w Q (.tup (xs ++ ys)) w.S := g
    refine .inr (.inr ⟨a, b, vs, us, rfl, rfl, hc_sqT r1, hc_sqT r3, by rw [r2.len, r4.len]; exact sizeM_le c, fun e => ?_, fun _ e => ?_, fun _ _ => post_tup k rfl (r2.append r4) g⟩)
    · have : xs = [] := by
        have := r2.len
        rw [e] at this
        exact List.length_eq_zero_iff.mp this.symm
      subst this
      exact post_self k g rfl ⟨b, us, rfl, r3, r4⟩
    · have : ys = [] := by
        have := r4.len
        rw [e] at this
        exact List.length_eq_zero_iff.mp this.symm
      subst this
      rw [List.append_nil] at g
      exact post_self k g rfl ⟨a, vs, rfl, r1, r2⟩
theorem r2_cat : R2N K mg E rCat gCat := fun w x y v u Q k rx ry g => by
  cases x <;> cases y <;> first | exact g.elim | skip
  obtain ⟨c, g⟩ := good_if g
  obtain ⟨a, vs, rfl, r1, r2⟩ := rx
  obtain ⟨b, us, rfl, r3, r4⟩ := ry
  exact ⟨a, b, vs, us, rfl, rfl, hc_lst r1, hc_lst r3, by rw [r2.len, r4.len]; exact sizeM_le c, post_lst k rfl (r2.append r4) g⟩
theorem RVs.flat {L Hc} {xs : List PV} {vs : List V} (r : RVs K L Hc xs vs) : ∀ n : Nat, RVs K L Hc (List.replicate n xs).flatten (List.replicate n vs).flatten
  | 0 => rfl
  | n + 1 => by
    rw [List.replicate_succ, List.replicate_succ, List.flatten_cons, List.flatten_cons]
    exact r.append (RVs.flat r n)
theorem r2_rep : R2N K mg E rRep gRep := fun w x y v u Q k rx ry g => by
  cases x <;> cases y <;> first | exact g.elim | skip
  obtain ⟨c, g⟩ := good_if g
  simp only [Bool.and_eq_true, decide_eq_true_eq] at c
  obtain ⟨a, vs, rfl, r1, r2⟩ := rx
  exact ⟨a, _, vs, rfl, ry, hc_lst r1, by omega, by omega, by rw [r2.len]; exact sizeM_le c.1.1, post_lst k rfl (r2.flat _) g⟩
theorem r2_sub : R2Sim K mg E (rI0 fun i j => .int (i - j)) gSub := fun w x y v u Q k rx ry g => by
  cases x <;> cases y <;> first | exact g.elim | exact ⟨_, _, rx, ry, post_self k g rfl rfl⟩
theorem r2_mul : R2Sim K mg E (rI CMul fun i j => .int (i * j)) gMul := fun w x y v u Q k rx ry g => by
  cases x <;> cases y <;> first | exact g.elim | skip
  obtain ⟨c, g⟩ := good_if g
  refine ⟨_, _, rx, ry, ?_, post_self k g rfl rfl⟩
  rcases Bool.or_eq_true_iff.mp c with c | c
  · exact .inl (small64_of c)
  · exact .inr (small64_of c)
theorem r2_fdiv : R2Sim K mg E (rI CDiv fun i j => .int (i / j)) gFdiv := fun w x y v u Q k rx ry g => by
  cases x <;> cases y <;> first | exact g.elim | skip
  obtain ⟨c, g⟩ := good_if g
  simp only [Bool.and_eq_true, decide_eq_true_eq] at c
  exact ⟨_, _, rx, ry, c, post_self k g rfl rfl⟩
theorem r2_mod : R2Sim K mg E (rI (fun _ j => 0 < j) fun i j => .int (i % j)) gMod := fun w x y v u Q k rx ry g => by
  cases x <;> cases y <;> first | exact g.elim | skip
  obtain ⟨c, g⟩ := good_if g
  exact ⟨_, _, rx, ry, c, post_self k g rfl rfl⟩
theorem cpow_of {i j : Int} (h : cpow i j = true) : CPow i j := by
  unfold cpow at h
  simp only [Bool.and_eq_true, decide_eq_true_eq] at h
  have := small64_of h.2
  exact ⟨h.1.1, by omega, by omega⟩
theorem r2_pow : R2Sim K mg E (rI CPow fun i j => .int (i ^ j.toNat)) gPow := fun w x y v u Q k rx ry g => by
  cases x <;> cases y <;> first | exact g.elim | skip
  obtain ⟨c, g⟩ := good_if g
  exact ⟨_, _, rx, ry, cpow_of c, post_self k g rfl rfl⟩
theorem r2_shl : R2Sim K mg E (rI CPow fun i j => .int (i * 2 ^ j.toNat)) gShl := fun w x y v u Q k rx ry g => by
  cases x <;> cases y <;> first | exact g.elim | skip
  obtain ⟨c, g⟩ := good_if g
  exact ⟨_, _, rx, ry, cpow_of c, post_self k g rfl rfl⟩
theorem r2_lt : R2Sim K mg E (rI0 fun i j => .bl (decide (i < j))) gLt := fun w x y v u Q k rx ry g => by
  cases x <;> cases y <;> first | exact g.elim | exact ⟨_, _, rx, ry, post_self k g rfl rfl⟩
theorem r2_le : R2Sim K mg E (rI0 fun i j => .bl (decide (i ≤ j))) gLe := fun w x y v u Q k rx ry g => by
  cases x <;> cases y <;> first | exact g.elim | exact ⟨_, _, rx, ry, post_self k g rfl rfl⟩
theorem r2_gt : R2Sim K mg E (rI0 fun i j => .bl (decide (j < i))) gGt := fun w x y v u Q k rx ry g => by
  cases x <;> cases y <;> first | exact g.elim | exact ⟨_, _, rx, ry, post_self k g rfl rfl⟩
theorem r2_ge : R2Sim K mg E (rI0 fun i j => .bl (decide (j ≤ i))) gGe := fun w x y v u Q k rx ry g => by
  cases x <;> cases y <;> first | exact g.elim | exact ⟨_, _, rx, ry, post_self k g rfl rfl⟩
theorem toV_rv {L Hc} {x : PV} {u v : V} (h : toV x = some u) (r : RV K L Hc x v) : v = u := by
  cases x <;> first | (cases h; exact r) | cases h
theorem toVs_rv {L Hc} : ∀ {xs : List PV} {us vs : List V}, xs.mapM toV = some us → RVs K L Hc xs vs → vs = us
  | [], us, vs, h, r => by
    simp at h
    subst h
    exact r
  | x :: xs, us, vs, h, r => by
    obtain ⟨v, r', rfl, r1, r2⟩ := r
    rw [List.mapM_cons] at h
    cases e : toV x with
    | none => rw [e] at h; cases h
    | some a =>
      rw [e] at h
      cases e2 : xs.mapM toV with
      | none => rw [e2] at h; cases h
      | some b =>
        rw [e2] at h
        cases h
        rw [toV_rv e r1, toVs_rv e2 r2]
theorem toV_flat {x : PV} {u : V} (h : toV x = some u) : flatV u = true := by
  cases x <;> cases h <;> rfl
theorem toVs_flat : ∀ {xs : List PV} {us : List V}, xs.mapM toV = some us → us.all flatV = true
  | [], us, h => by
    simp at h
    subst h
    rfl
  | x :: xs, us, h => by
    rw [List.mapM_cons] at h
    cases e : toV x with
    | none => rw [e] at h; cases h
    | some a =>
      rw [e] at h
      cases e2 : xs.mapM toV with
      | none => rw [e2] at h; cases h
      | some b =>
        rw [e2] at h
        cases h
        rw [List.all_cons, toV_flat e, toVs_flat e2]
        rfl
theorem r2_eq : R2Sim K mg E rEq (gEq false) := fun w x y v u Q k rx ry g => by
  unfold gEq at g
  split at g
  · rename_i a b ea eb
    obtain ⟨c, g⟩ := good_if g
    rw [toV_rv ea rx, toV_rv eb ry]
    exact ⟨c, post_self k g rfl rfl⟩
  · exact g.elim
theorem r2_ne : R2Sim K mg E rNe (gEq true) := fun w x y v u Q k rx ry g => by
  unfold gEq at g
  split at g
  · rename_i a b ea eb
    obtain ⟨c, g⟩ := good_if g
    rw [toV_rv ea rx, toV_rv eb ry]
    exact ⟨c, post_self k g rfl rfl⟩
  · exact g.elim
theorem items_rv {L Hc} {y : PV} {ys : List PV} {u : V} (h : items y = some ys) (r : RV K L Hc y u) : ∃ p us, u = .ref p ∧ (SqL K Hc p us ∨ SqT K Hc p us) ∧ RVs K L Hc ys us := by
  cases y <;> first | cases h | skip
  · obtain ⟨a, vs, rfl, r1, r2⟩ := r
    exact ⟨a, vs, rfl, .inr r1, r2⟩
  · obtain ⟨a, vs, rfl, r1, r2⟩ := r
    exact ⟨a, vs, rfl, .inl (.inl (.inl r1)), r2⟩
  · obtain ⟨a, vs, rfl, r1, r2⟩ := r
    exact ⟨a, vs, rfl, .inl r1, r2⟩
theorem r2_in (neg : Bool) : R2Sim K mg E (rIn K neg) (gIn neg) := fun w x y v u Q k rx ry g => by
  unfold gIn at g
  split at g
  · rename_i a ys ea ey
    split at g
    · rename_i us eu
      obtain ⟨p, us', rfl, h1, h2⟩ := items_rv ey ry
      have e1 := toV_rv ea rx
      have e2 := toVs_rv eu h2
      subst e1 e2
      exact ⟨p, us', rfl, h1.imp hc_sqL hc_sqT, toV_flat ea, toVs_flat eu, post_self k g rfl rfl⟩
    · exact g.elim
  · exact g.elim
theorem rv_non {L Hc} {x : PV} {v : V} (r : RV K L Hc x v) : decide (v = .non) = (match x with | .non => true | _ => false) := by
  cases x <;> first | (have r : v = _ := r; subst r; rfl) | skip
  all_goals
    obtain ⟨a, h⟩ := r
    first
      | (obtain ⟨vs, rfl, _⟩ := h; rfl)
      | (obtain ⟨rfl, _⟩ := h; rfl)
      | (obtain ⟨_, vs, rfl, _⟩ := h; rfl)
theorem r2_is : R2Sim K mg E (fun x y H Q => y = .non ∧ Q (.bl (decide (x = .non))) H) (gIs false) := fun w x y v u Q k rx ry g => by
  cases y <;> first | (cases x <;> exact g.elim) | skip
  refine ⟨ry, ?_⟩
  rw [rv_non rx]
  cases x <;> exact post_self k g rfl rfl
theorem r2_isnot : R2Sim K mg E (fun x y H Q => y = .non ∧ Q (.bl (!decide (x = .non))) H) (gIs true) := fun w x y v u Q k rx ry g => by
  cases y <;> first | (cases x <;> exact g.elim) | skip
  refine ⟨ry, ?_⟩
  rw [rv_non rx]
  cases x <;> exact post_self k g rfl rfl
theorem r1_neg : R1Sim K mg E (rU fun i => .int (-i)) gNeg := fun w x v Q k rx g => by
  cases x <;> first | exact g.elim | exact ⟨_, rx, post_self k g rfl rfl⟩
theorem at_rv {L Hc} {xs : List PV} {vs : List V} {i : Int} {y : PV} (r : RVs K L Hc xs vs) (h : atI xs i = some y) : ∃ v, atI vs i = some v ∧ RV K L Hc y v := by
  unfold atI at h ⊢
  rw [r.len]
  cases e : ixN xs.length i with
  | none => rw [e] at h; cases h
  | some j =>
    rw [e] at h
    exact r.get h
theorem st_at (k : WOk K w) {n : Nat} {v : V} {xs : List PV} (r : RV K w.L w.hc (.obj n) v) (h : w.S[n]? = some (.lst xs)) : ∃ a vs, v = .ref a ∧ w.L[n]? = some a ∧ w.H a = some (.lst vs) ∧ RVs K w.L w.hc xs vs := by
  obtain ⟨a, rfl, h2⟩ := r
  obtain ⟨vs, h3, h4⟩ := k.st n _ a h h2
  exact ⟨a, vs, rfl, h2, h3, h4⟩
theorem r2_ix : R2Sim K mg E (rIx K) gIx := fun w x y v u Q k rx ry g => by
  have fin : ∀ {o : Option PV}, Good (match o with | some y => Res.ok y w.S | none => Res.bad) (PostV K w Q) (ExP K mg E w) → ∃ y, o = some y ∧ PostV K w Q y w.S := fun {o} h => by
    cases o with
    | none => exact h.elim
    | some y => exact ⟨y, rfl, h⟩
  cases y <;> first | (cases x <;> exact g.elim) | skip
  rename_i i
  cases x <;> first | exact g.elim | skip
  · obtain ⟨c, g⟩ := good_if g
    rename_i z _
    cases e : atI z.cps.toList i with
    | none => rw [e] at g; exact g.elim
    | some c' =>
      rw [e] at g
      exact .inr (.inr ⟨z, i, c', rx, ry, sizeM_le c, e, post_self k g rfl rfl⟩)
  · obtain ⟨y, e, g⟩ := fin g
    obtain ⟨a, vs, rfl, r1, r2⟩ := rx
    obtain ⟨t, e1, e2⟩ := at_rv r2 e
    exact .inr (.inl ⟨a, vs, i, t, rfl, ry, hc_sqT r1, e1, post_self k g rfl e2⟩)
  · obtain ⟨y, e, g⟩ := fin g
    obtain ⟨a, vs, rfl, r1, r2⟩ := rx
    obtain ⟨t, e1, e2⟩ := at_rv r2 e
    exact .inl ⟨a, vs, i, t, rfl, ry, .inl (.inl (hc_lst r1)), e1, post_self k g rfl e2⟩
  · obtain ⟨y, e, g⟩ := fin g
    obtain ⟨a, vs, rfl, r1, r2⟩ := rx
    obtain ⟨t, e1, e2⟩ := at_rv r2 e
    exact .inl ⟨a, vs, i, t, rfl, ry, hc_sqL r1, e1, post_self k g rfl e2⟩
  · rename_i n
    have g : Good (match w.S[n]? with | some (.lst xs) => (match atI xs i with | some y => Res.ok y w.S | none => Res.bad) | _ => Res.bad) (PostV K w Q) (ExP K mg E w) := g
    cases eS : w.S[n]? with
    | none => rw [eS] at g; exact g.elim
    | some o =>
      cases o with
      | lst xs =>
        rw [eS] at g
        obtain ⟨y, e, g⟩ := fin g
        obtain ⟨a, vs, rfl, _, r1, r2⟩ := st_at k rx eS
        obtain ⟨t, e1, e2⟩ := at_rv r2 e
        exact .inl ⟨a, vs, i, t, rfl, ry, .inl (.inl r1), e1, post_self k g rfl e2⟩
      | _ => rw [eS] at g; exact g.elim
theorem cut_rv {L Hc} {xs : List PV} {vs : List V} (r : RVs K L Hc xs vs) (i j : Option Int) : RVs K L Hc (cutP xs i j) (cutV vs i j) := by
  unfold cutP cutV
  rw [r.len]
  exact (r.drop _).take _
theorem rsl : RSl K mg E (fun x lo hi H Q => rSlA K x lo hi H Q ∨ (rSlS x lo hi H Q ∨ rSlL K x lo hi H Q)) gSl := fun w x v i j Q k rx g => by
  cases x <;> first | exact g.elim | skip
  · obtain ⟨c, g⟩ := good_if g
    exact .inr (.inl ⟨_, rx, sizeM_le c, post_self k g rfl rfl⟩)
  · obtain ⟨a, vs, rfl, r1, r2⟩ := rx
    rename_i xs
    have g : PostV K w Q (.tup (cutP xs i j)) w.S := g
    refine .inl ⟨a, vs, rfl, hc_sqT r1, fun h => ?_, fun _ => post_tup k rfl (cut_rv r2 i j) g⟩
    have e : cutP xs i j = xs := by
      unfold cutP
      rw [← r2.len, h.1, h.2, r2.len]
      simp
    rw [e] at g
    exact post_self k g rfl ⟨a, vs, rfl, r1, r2⟩
  · obtain ⟨a, vs, rfl, r1, r2⟩ := rx
    rename_i xs
    have g : PostV K w Q (.lst (cutP xs i j)) w.S := g
    refine .inr (.inr ⟨a, vs, rfl, .inl (.inl (hc_lst r1)), fun p hp => ?_⟩)
    exact g (w.put p (.lst (cutV vs i j))) (.ref p) rfl (put_step k hp) (put_ok k hp) ⟨p, _, rfl, put_at k hp, (cut_rv r2 i j).mono (List.prefix_refl _) (put_ext hp)⟩

/-! built-ins -/
theorem vs1 {L Hc} {x : PV} {vs : List V} (r : RVs K L Hc [x] vs) : ∃ v, vs = [v] ∧ RV K L Hc x v := by
  obtain ⟨v, t, rfl, h1, h2⟩ := r
  have h2 : t = [] := h2
  subst h2
  exact ⟨v, rfl, h1⟩
theorem ra_len : RASim K mg E (fun xs H Q => ∃ x n, xs = [x] ∧ LenV K x H n ∧ Q (.int n) H) gLen := fun w xs vs Q k r g => by
  match xs, g, r with
  | [.tup ys], g, r =>
    obtain ⟨v, rfl, a, us, rfl, r1, r2⟩ := vs1 r
    exact ⟨_, _, rfl, .inr ⟨us, hc_sqT r1, r2.len.symm⟩, post_self k g rfl rfl⟩
  | [.lst ys], g, r =>
    obtain ⟨v, rfl, a, us, rfl, r1, r2⟩ := vs1 r
    exact ⟨_, _, rfl, .inl ⟨us, .inl (.inl (hc_lst r1)), r2.len.symm⟩, post_self k g rfl rfl⟩
  | [.cl ys], g, r =>
    obtain ⟨v, rfl, a, us, rfl, r1, r2⟩ := vs1 r
    exact ⟨_, _, rfl, .inl ⟨us, hc_sqL r1, r2.len.symm⟩, post_self k g rfl rfl⟩
  | [.str z], g, r =>
    obtain ⟨v, rfl, rfl⟩ := vs1 r
    obtain ⟨c, g⟩ := good_if g
    exact ⟨_, _, rfl, ⟨sizeM_le c, rfl⟩, post_self k g rfl rfl⟩
  | [.obj n], g, r =>
    obtain ⟨v, rfl, r1⟩ := vs1 r
    have g : Good (match w.S[n]? with | some (.lst xs) => Res.ok (.int xs.length) w.S | _ => Res.bad) (PostV K w Q) (ExP K mg E w) := g
    cases eS : w.S[n]? with
    | none => rw [eS] at g; exact g.elim
    | some o =>
      cases o with
      | lst ys =>
        rw [eS] at g
        obtain ⟨a, us, rfl, _, r2, r3⟩ := st_at k r1 eS
        exact ⟨_, _, rfl, .inl ⟨us, .inl (.inl r2), r3.len.symm⟩, post_self k g rfl rfl⟩
      | _ => rw [eS] at g; exact g.elim
theorem ra_int : RASim K mg E (fun xs H Q => (∃ i, xs = [V.int i] ∧ Q (.int i) H) ∨ ∃ k, xs = [V.bl k] ∧ Q (.int (if k then 1 else 0)) H) gInt := fun w xs vs Q k r g => by
  match xs, g, r with
  | [.int i], g, r =>
    obtain ⟨v, rfl, rfl⟩ := vs1 r
    exact .inl ⟨_, rfl, post_self k g rfl rfl⟩
  | [.bl i], g, r =>
    obtain ⟨v, rfl, rfl⟩ := vs1 r
    exact .inr ⟨_, rfl, post_self k g rfl rfl⟩
theorem ra_abs : RASim K mg E (fun xs H Q => ∃ i, xs = [V.int i] ∧ Q (.int (if i < 0 then -i else i)) H) gAbs := fun w xs vs Q k r g => by
  match xs, g, r with
  | [.int i], g, r =>
    obtain ⟨v, rfl, rfl⟩ := vs1 r
    exact ⟨_, rfl, post_self k g rfl rfl⟩
theorem ra_tuple : RASim K mg E (fun xs H Q => ∃ p ys, xs = [V.ref p] ∧ ((SqL K H p ys ∧ ∀ l, H l = none → Q (.ref l) (upd H l (.tup ys))) ∨ (SqT K H p ys ∧ Q (.ref p) H))) gTuple := fun w xs vs Q k r g => by
  match xs, g, r with
  | [.tup ys], g, r =>
    obtain ⟨v, rfl, a, us, rfl, r1, r2⟩ := vs1 r
    exact ⟨a, us, rfl, .inr ⟨hc_sqT r1, post_self k g rfl ⟨a, us, rfl, r1, r2⟩⟩⟩
  | [.lst ys], g, r =>
    obtain ⟨v, rfl, a, us, rfl, r1, r2⟩ := vs1 r
    exact ⟨a, us, rfl, .inl ⟨.inl (.inl (hc_lst r1)), post_tup k rfl r2 g⟩⟩
  | [.cl ys], g, r =>
    obtain ⟨v, rfl, a, us, rfl, r1, r2⟩ := vs1 r
    exact ⟨a, us, rfl, .inl ⟨hc_sqL r1, post_tup k rfl r2 g⟩⟩
theorem ra_list : RAN K mg E (fun xs H Q => ∃ p ys, xs = [V.ref p] ∧ (SqL K H p ys ∨ SqT K H p ys) ∧ ∀ l, H l = none → Q (.ref l) (upd H l (.lst ys))) gList := fun w xs vs Q k r g => by
  match xs, g, r with
  | [.tup ys], g, r =>
    obtain ⟨v, rfl, a, us, rfl, r1, r2⟩ := vs1 r
    exact ⟨a, us, rfl, .inr (hc_sqT r1), post_lst k rfl r2 g⟩
  | [.lst ys], g, r =>
    obtain ⟨v, rfl, a, us, rfl, r1, r2⟩ := vs1 r
    exact ⟨a, us, rfl, .inl (.inl (.inl (hc_lst r1))), post_lst k rfl r2 g⟩
  | [.cl ys], g, r =>
    obtain ⟨v, rfl, a, us, rfl, r1, r2⟩ := vs1 r
    exact ⟨a, us, rfl, .inl (hc_sqL r1), post_lst k rfl r2 g⟩
theorem toBls_rv {L Hc} : ∀ {xs : List PV} {bs : List Bool} {vs : List V}, xs.mapM toBl = some bs → RVs K L Hc xs vs → vs = bs.map V.bl
  | [], us, vs, h, r => by
    simp at h
    subst h
    exact r
  | x :: xs, us, vs, h, r => by
    obtain ⟨v, r', rfl, r1, r2⟩ := r
    rw [List.mapM_cons] at h
    cases e : toBl x with
    | none => rw [e] at h; cases h
    | some a =>
      rw [e] at h
      cases e2 : xs.mapM toBl with
      | none => rw [e2] at h; cases h
      | some b =>
        rw [e2] at h
        cases h
        rw [toBls_rv e2 r2]
        cases x <;> cases e
        have r1 : v = .bl _ := r1
        rw [r1]
        rfl
theorem toIs_rv {L Hc} : ∀ {xs : List PV} {bs : List Int} {vs : List V}, xs.mapM toI = some bs → RVs K L Hc xs vs → vs = bs.map V.int
  | [], us, vs, h, r => by
    simp at h
    subst h
    exact r
  | x :: xs, us, vs, h, r => by
    obtain ⟨v, r', rfl, r1, r2⟩ := r
    rw [List.mapM_cons] at h
    cases e : toI x with
    | none => rw [e] at h; cases h
    | some a =>
      rw [e] at h
      cases e2 : xs.mapM toI with
      | none => rw [e2] at h; cases h
      | some b =>
        rw [e2] at h
        cases h
        rw [toIs_rv e2 r2]
        cases x <;> cases e
        have r1 : v = .int _ := r1
        rw [r1]
        rfl
theorem ra_all : RASim K mg E (rAll K) gAll := fun w xs vs Q k r g => by
  match xs, g, r with
  | [.lst ys], g, r =>
    obtain ⟨v, rfl, a, us, rfl, r1, r2⟩ := vs1 r
    have g : Good (match ys.mapM toBl with | some bs => Res.ok (.bl (bs.all id)) w.S | none => Res.bad) (PostV K w Q) (ExP K mg E w) := g
    cases e : ys.mapM toBl with
    | none => rw [e] at g; exact g.elim
    | some bs =>
      rw [e] at g
      exact ⟨a, bs, rfl, .inl (.inl (by rw [← toBls_rv e r2]; exact hc_lst r1)), post_self k g rfl rfl⟩
theorem ra_any : RASim K mg E (rAny K) gAny := fun w xs vs Q k r g => by
  match xs, g, r with
  | [.lst ys], g, r =>
    obtain ⟨v, rfl, a, us, rfl, r1, r2⟩ := vs1 r
    have g : Good (match ys.mapM toBl with | some bs => Res.ok (.bl (bs.any id)) w.S | none => Res.bad) (PostV K w Q) (ExP K mg E w) := g
    cases e : ys.mapM toBl with
    | none => rw [e] at g; exact g.elim
    | some bs =>
      rw [e] at g
      exact ⟨a, bs, rfl, .inl (.inl (by rw [← toBls_rv e r2]; exact hc_lst r1)), post_self k g rfl rfl⟩
theorem ra_sum : RASim K mg E (rSum K) gSumL := fun w xs vs Q k r g => by
  match xs, g, r with
  | [.lst ys], g, r =>
    obtain ⟨v, rfl, a, us, rfl, r1, r2⟩ := vs1 r
    have g : Good (match ys.mapM toI with | some bs => Res.ok (.int bs.sum) w.S | none => Res.bad) (PostV K w Q) (ExP K mg E w) := g
    cases e : ys.mapM toI with
    | none => rw [e] at g; exact g.elim
    | some bs =>
      rw [e] at g
      exact ⟨a, bs, rfl, .inl (.inl (by rw [← toIs_rv e r2]; exact hc_lst r1)), post_self k g rfl rfl⟩
/-- a value's type -/
theorem tyx_of {L : List Addr} {H Hc : Hp} (e : ∀ a o, Hc a = some o → H a = some o) {x : PV} {v : V} {a : String} (h : tyP x = some a) (r : RV K L Hc x v) : TyX K H v (.type a) := by
  cases x <;> cases h
  · have r : v = .non := r
    subst r; exact .base .non
  · have r : v = .bl _ := r
    subst r; exact .base (.bl _)
  · have r : v = .int _ := r
    subst r; exact .base (.int _)
  · have r : v = .str _ := r
    subst r; exact .base (.str _)
  · obtain ⟨p, vs, rfl, r1, r2⟩ := r
    rcases r1 with (r1 | ⟨o, r1⟩) | ⟨o, its, n, l, c, _⟩
    · exact .base (.tup (e _ _ r1))
    · exact .fTuple (e _ _ r1)
    · exact .kTuple l c
  · obtain ⟨p, vs, rfl, r1, r2⟩ := r
    exact .base (.lst (e _ _ r1))
  · obtain ⟨p, vs, rfl, r1, r2⟩ := r
    rcases r1 with (r1 | ⟨o, r1⟩) | ⟨o, its, n, l, c, _⟩
    · exact .base (.lst (e _ _ r1))
    · exact .base (.frz (e _ _ r1))
    · exact .kList l c
  · obtain ⟨p, vs, rfl, r1, r2⟩ := r
    exact .base (.dK (e _ _ r1))
end

section
variable {X : Cx} {G : Wd} {E : EK} {E1 : XK}
/-- isinstance(e, T), T a built-in type -/
def mIsi (T : String) (f : Rho → Store → Res PV) : Rho → Store → Res PV := fun ρ S => (f ρ S).bind fun x S1 => gIsi T x S1
theorem fe_isi {T : String} {Tn : Str} {p pT pos e te f} (hm : X.mg "isinstance" = none) (hT : X.mg Tn = none) (he : FE X G E e te f) (hg : Gl X "isinstance" := by rfl) (hgT : Gl X Tn := by rfl) (hb : bootBuiltins Tn = some (.type T) := by decide +kernel) (hn : Tn ≠ "__name__" := by decide) (hdb : (Tn == ("__debug__" : Str)) = false := by decide)
    (hs : starEach [e, .Name Tn pT] X.env = (false, eval e X.env) :: starEach [.Name Tn pT] X.env := by rfl) (hpl : (backTo pos (starEach [.Name Tn pT] X.env)).any (·.1) = false := by rfl) (hs2 : starEach [.Name Tn pT] X.env = (false, eval (.Name Tn pT) X.env) :: starEach [] X.env := by rfl) :
    FE X G E (.Call (.Name "isinstance" p) [e, .Name Tn pT] [] pos) (tCB (rIsi X.K) (tCons te (tCons (tC (.ty T)) tNil))) (mIsi T f) :=
  ⟨pe_callB call_isi hg hm (by decide +kernel) (pa_cons he.pe (pa_cons (pe_bltn hgT hT hb rfl hn hdb) pa_nil hs2) hs) (by decide) (by decide) hs hpl, fun w ρ σ Q I q => by
  refine he.sim w ρ σ _ I (Good.imp (Good.bind1 q) (fun x S1 h1 => ?_) fun _ _ _ h => h)
  intro w1 v e1 s1 k1 r1
  subst e1
  unfold gIsi at h1
  split at h1
  · rename_i a ea
    split at h1
    · rename_i b eb
      exact ⟨v, .ty T, .type a, .type T, b, rfl, .ty T, tyx_of (fun a o h => (cut_some h).2) ea r1, kit_ty eb, h1 w1 (.bl b) rfl s1 k1 rfl⟩
    · exact h1.elim
  · exact h1.elim⟩

/-! ### lists of ours, changed -/
theorem fs_append {i : Nat} {x : Str} {px pa pc pos e te f} (he : FE X G E e te f) (hx : PE X (.Name x px) (tVar i)) (pe : PS X (.Expr (.Call (.Attribute (.Name x px) "append" pa) [e] [] pc) pos) (tDrop (tBM X.K "list" rAppend (tVar i) (tCons te tNil)))) :
    FS X G E (.Expr (.Call (.Attribute (.Name x px) "append" pa) [e] [] pc) pos) (tDrop (tBM X.K "list" rAppend (tVar i) (tCons te tNil))) (mAppend i f) := ⟨pe, fun w ρ σ D I q => by
  unfold mAppend at q
  split at q
  · rename_i o hi
    obtain ⟨p, a, b, c, d, r⟩ := I.own i _ hi
    · obtain ⟨vs, r1, r2⟩ := r
      refine ⟨.ref p, a, .inl ⟨rfl, vs, .inl (.inl r1)⟩, he.sim w ρ σ _ I (Good.imp (Good.bind1 q) (fun y S1 h1 => ?_) fun _ _ _ h => h.step I.stp I.gok I.ok)⟩
      intro w1 v e1 s1 k1 rv
      obtain ⟨hsz, h1⟩ := good_if h1
      have I1 := I.step s1 k1
      have g1 : w1.H p = some (.lst vs) := s1.keep p _ r1 c
      have hO := s1.omono p b
      have hL : p ∉ w1.L := fun z => by
        rcases s1.lset p z with y | y
        · exact c y
        · rw [r1] at y; cases y
      refine ⟨p, vs, v, rfl, rfl, g1, by rw [r2.len]; exact sizeM_lt hsz, ?_⟩
      exact h1 (w1.wr p (.lst (vs ++ [v]))) σ e1 ((s1.v I.ok.sub).trans (wr_v hO)) (I1.wrOwn hi a hO hL d ⟨_, rfl, (r2.mono s1.pre (s1.ext I.ok.sub)).append (RVs.one rv)⟩)
  · exact q.elim⟩
theorem sim_setIx {i : Nat} {tk te fk f} (he : ESim X.K X.mg G (fun _ => E1) te f) (hk : ESim X.K X.mg G (fun _ => E1) tk fk) : SSim X.K X.mg G (fun _ => E1) (tAsg te (L2.gSub (tVar i) tk rSetL)) (mSetIx i fk f) := fun w ρ σ D I q => by
  refine he w ρ σ _ I (Good.imp (Good.bind1 q) (fun y S1 h1 => ?_) fun _ _ _ h => h.step I.stp I.gok I.ok)
  intro w1 v e1 s1 k1 rv
  subst e1
  have I1 := I.step s1 k1
  cases hi : ρ[i]? with
  | none => rw [hi] at h1; exact h1.elim
  | some sl =>
    cases sl with
    | none => rw [hi] at h1; exact h1.elim
    | pin c fs => rw [hi] at h1; exact h1.elim
    | own o =>
      cases o with
      | lst xs =>
        rw [hi] at h1
        obtain ⟨p, a, b, c, d, vs, r1, r2⟩ := I1.own i _ hi
        refine ⟨.ref p, a, hk w1 ρ σ _ I1 (Good.imp (Good.bind1 h1) (fun k S2 h2 => ?_) fun _ _ _ h => h.step I1.stp I1.gok I1.ok)⟩
        intro w2 u e2 s2 k2 rk
        subst e2
        have I2 := I1.step s2 k2
        cases k <;> first | exact h2.elim | skip
        rename_i j
        have h2 : Good (match ixN xs.length j with | some j' => Res.ok (Out.nx (ρ.set i (.own (.lst (xs.set j' y))))) w2.S | none => Res.bad) (PostS X.K G w D) (ExP X.K X.mg E1 G) := h2
        cases ej : ixN xs.length j with
        | none => rw [ej] at h2; exact h2.elim
        | some j' =>
          rw [ej] at h2
          have g2 : w2.H p = some (.lst vs) := s2.keep p _ r1 c
          have hO := s2.omono p b
          have hL : p ∉ w2.L := fun z => by
            rcases s2.lset p z with y | y
            · exact c y
            · rw [r1] at y; cases y
          refine ⟨p, vs, j, j', rfl, rk, g2, by rw [r2.len]; exact ej, ?_⟩
          exact h2 (w2.wr p (.lst (vs.set j' v))) σ rfl (((s1.v I.ok.sub).trans (s2.v k1.sub)).trans (wr_v hO)) (I2.wrOwn hi a hO hL d ⟨_, rfl, (r2.mono s2.pre (s2.ext k1.sub)).set (rv.mono s2.pre (s2.ext k1.sub)) _⟩)
      | _ => rw [hi] at h1; exact h1.elim
    | val z =>
      cases z with
      | obj n =>
        rw [hi] at h1
        obtain ⟨v0, a, r0⟩ := I1.val i _ hi
        refine ⟨v0, a, hk w1 ρ σ _ I1 (Good.imp (Good.bind1 h1) (fun k S2 h2 => ?_) fun _ _ _ h => h.step I1.stp I1.gok I1.ok)⟩
        intro w2 u e2 s2 k2 rk
        subst e2
        have I2 := I1.step s2 k2
        cases k <;> first | exact h2.elim | skip
        rename_i j
        have h2 : Good (match w2.S[n]? with
          | some (.lst xs) => (match ixN xs.length j with | some j' => Res.ok (Out.nx ρ) (w2.S.set n (.lst (xs.set j' y))) | none => Res.bad)
          | _ => Res.bad) (PostS X.K G w D) (ExP X.K X.mg E1 G) := h2
        cases eS : w2.S[n]? with
        | none => rw [eS] at h2; exact h2.elim
        | some o =>
          cases o with
          | lst xs =>
            rw [eS] at h2
            cases ej : ixN xs.length j with
            | none => simp only [ej] at h2; exact h2.elim
            | some j' =>
              simp only [ej] at h2
              have r0' := r0.mono s2.pre (s2.ext k1.sub)
              obtain ⟨p, vs, rfl, hp, r1, r2⟩ := st_at k2 r0' eS
              have rv2 := rv.mono s2.pre (s2.ext k1.sub)
              have k3 := put2_ok (ho := .lst (vs.set j' v)) (o := .lst (xs.set j' y)) k2 hp ⟨_, rfl, r2.set rv2 _⟩
              have s3 := put2_step (ho := .lst (vs.set j' v)) (o := .lst (xs.set j' y)) k2 hp
              refine ⟨p, vs, j, j', rfl, rk, r1, by rw [r2.len]; exact ej, ?_⟩
              exact h2 (w2.put2 p (.lst (vs.set j' v)) n (.lst (xs.set j' y))) σ rfl (((s1.v I.ok.sub).trans (s2.v k1.sub)).trans (s3.v k2.sub)) (I2.step s3 k3)
          | _ => rw [eS] at h2; exact h2.elim
      | _ => rw [hi] at h1; exact h1.elim
theorem fs_setIx {i : Nat} {x : Str} {px pt pos k e tk te fk f} (he : FE X G (fun _ => E1) e te f) (hk : FE X G (fun _ => E1) k tk fk) (pe : PS X (.Assign [.Subscript (.Name x px) k pt] e pos) (tAsg te (L2.gSub (tVar i) tk rSetL))) :
    FS X G (fun _ => E1) (.Assign [.Subscript (.Name x px) k pt] e pos) (tAsg te (L2.gSub (tVar i) tk rSetL)) (mSetIx i fk f) := ⟨pe, sim_setIx he.sim hk.sim⟩
end

/-! ### defs -/
/-- what a def promises: what its mirror gives -/
def spM (K : PySem.W.Frag) (mg : Str → Option Value) (n : Nat) (m : List PV → Store → Res PV) : Sp := fun vs H Q E => ∃ xs w, w.H = H ∧ WOk K w ∧ RVs K w.L w.hc xs vs ∧ xs.length = n ∧ Good (m xs w.S) (PostX K w Q) (ExP K mg E w)
def rho0 (nN : Nat) (xs : List PV) : Rho := xs.map Slot.val ++ List.replicate (nN - xs.length) Slot.none
def toRet : Out → Store → Res PV
  | .rt x, S => .ok x S
  | .nx _, S => .ok .non S
  | _, _ => .bad
def mDef (nN : Nat) (f : Rho → Store → Res Out) : List PV → Store → Res PV := fun xs S => (f (rho0 nN xs) S).bind toRet
theorem FI.begin {K : PySem.W.Frag} {w : Wd} {xs : List PV} {vs : List V} {N : List Str} (k : WOk K w) (r : RVs K w.L w.hc xs vs) : FI K w w (rho0 N.length xs) (start N vs) := by
  have e : vs.length = xs.length := r.len
  refine ⟨k, k, WStep.refl k.sub, by unfold rho0 L2.start; simp [e], fun i x h => ?_, fun i o h => ?_, fun i j oi oj _ h => ?_, fun i c fs h => ?_⟩
  · unfold rho0 at h
    by_cases hi : i < xs.length
    · rw [List.getElem?_append_left (by simpa using hi), List.getElem?_map] at h
      rw [List.getElem?_eq_getElem hi] at h
      cases h
      obtain ⟨v, e1, e2⟩ := r.get (List.getElem?_eq_getElem hi)
      refine ⟨v, ?_, e2⟩
      unfold L2.start
      rw [List.getElem?_append_left (by simpa [e] using hi), List.getElem?_map, e1]
      rfl
    · rw [List.getElem?_append_right (by simpa using hi)] at h
      have := List.mem_of_getElem? h
      rw [List.mem_replicate] at this
      cases this.2
  all_goals
    have := List.mem_of_getElem? h
    unfold rho0 at this
    rw [List.mem_append, List.mem_map, List.mem_replicate] at this
    rcases this with ⟨_, _, e⟩ | ⟨_, e⟩ <;> cases e
theorem sim_def {K : PySem.W.Frag} {mg : Str → Option Value} {N : List Str} {n : Nat} {t : TS} {f : Rho → Store → Res Out} {vs : List V} {H : Hp} {Q : VK} {E : XK} (h : spM K mg n (mDef N.length f) vs H Q E) (hs : ∀ G, SSim K mg G (fun _ => E) t f) :
    t { nx := fun _ H' => Q .non H', rt := Q } (start N vs) H := by
  obtain ⟨xs, w, rfl, k, r, hl, g⟩ := h
  refine hs w w _ _ _ (FI.begin k r) (Good.imp (Good.bind1 g) (fun o S h => ?_) fun _ _ _ h => h)
  cases o with
  | nx ρ => exact fun w' σ' e _ I => h w' .non e I.stp I.ok rfl
  | rt x => exact h
  | bk ρ => exact h.elim
  | ct ρ => exact h.elim
theorem spM_len {K : PySem.W.Frag} {mg : Str → Option Value} {n : Nat} {m} : ∀ vs H Q E, spM K mg n m vs H Q E → vs.length = n := fun vs H Q E ⟨xs, w, _, _, r, hl, _⟩ => r.len.trans hl
/-! ### defs that know that no repr is running -/
/-- a def at f keeps the promise sp wherever no guarded built-in (a repr) runs around it -/
structure FnG (P : Program) (w : World) (K : PySem.W.Frag) (mg : Str → Option Value) (base : Heap) (k : Nat) (f : Addr) (fd : FuncData) (ps : List Str) (sp : Sp) : Prop where
  arity : ∀ vs H Q E, sp vs H Q E → vs.length = ps.length
  go : ∀ (A : Around) (outer : List Env) (s : Shared) (H : Hp) (args : Args) (us : List Value) (vs : List V) (Q : VK) (E : XK), A.guards = some [] → Room k A →
    Env0 P w K mg base A outer s H → BindsTo s fd args (ps.zip us) → Vals vs us → sp vs H Q E → codeAny (model P w) A (.call (.ref f) args) (CR (L2.CX P w) outer P w H s Q E) s
theorem FnG.up {P : Program} {w : World} {K : PySem.W.Frag} {mg : Str → Option Value} {base : Heap} {j k : Nat} {f : Addr} {fd : FuncData} {ps : List Str} {sp : Sp} (F : FnG P w K mg base j f fd ps sp) (h : j ≤ k) : FnG P w K mg base k f fd ps sp :=
  ⟨F.arity, fun A outer s H args us vs Q E hg hr => F.go A outer s H args us vs Q E hg (hr.mono h)⟩
theorem fnG_of {P : Program} {w : World} {K : PySem.W.Frag} {mg : Str → Option Value} {base : Heap} {k : Nat} {x qual : Str} {st : Stmt} {f : Addr} {fd : FuncData} {N ps : List Str} {sp : Sp} (F : Fun K x qual st f fd) (S : FnScope N ps (defScope st))
    (ar : ∀ vs H Q E, sp vs H Q E → vs.length = ps.length)
    (body : ∀ (cdv : Value) (A : Around) (outer : List Env) (s : Shared) (H : Hp) (vs : List V) (Q : VK) (E : XK), A.guards = some [] → Room k (A.deeper (envOfC qual (defScope st) s.heap.objs.size f cdv)) → sp vs H Q E →
      ∃ t, PSs (cxOf (L2.CX P w) P w K mg base N qual (defScope st) f cdv A outer s H E) (defBody st) t ∧ t { nx := fun _ H' => Q .non H', rt := Q } (L2.start N vs) H) :
    FnG P w K mg base (k + 1) f fd ps sp := by
  obtain ⟨oc, od, kV, doc, pm, an, cdv, ct, osl, rfl, lk, hcd⟩ := F.ex
  refine ⟨ar, fun A outer s H args us vs Q E hgd hr e0 hb r hsp => ?_⟩
  have inK : K.In s.heap := e0.mod.kin.keeps fun a u z => (e0.bs a u z).1
  have kinds : ∀ y ∈ ps.zip us, (defScope st).names.lookup y.1 = some .local ∨ ((defScope st).names.lookup y.1 = some .cell ∧ ((cellsFrom (s.heap.objs.size + 1) (defScope st).names []).lookup y.1).isSome = true) := by
    rintro ⟨n, v⟩ hy
    exact (S.par n (List.of_mem_zip hy).1).imp id fun q => ⟨q, PySem.W.cellsFrom_some _ _ _ (.inl q)⟩
  refine codeAny_call_function hr.depth (inK _ _ lk) rfl S.co S.gen rfl (PySem.W.codeRec_of inK hcd) (hb _ _ _ _ (wpAny_newFunctionEnv_cells S.kind kinds fun env he s1 x => ?_))
  subst he
  refine ⟨(e0.mod.nolimit.keeps fun a u z => (e0.bs a u z).1).keeps x.toInCall.keep, codeAny_func ?_⟩
  obtain ⟨t, ht, hq⟩ := body cdv A outer s H vs Q E hgd (hr.deeper _) hsp
  have I0 := inv_start (CX := L2.CX P w) (E := E) (cd := cdv) (qual := qual) (f := f) S hr.hd e0 (ar _ _ _ _ hsp) r x
  refine wpAny_mono (ht.run [] s1 (L2.start N vs) H _ I0 hq) (fun fl s' hs => ?_) fun _ _ z => z
  cases fl with
  | ret u => exact let ⟨v, _, H', J, rv, q⟩ := hs; ⟨v, H', J.os, J.bare, J.base, J.hok, rv, q⟩
  | next => exact let ⟨_, H', J, q⟩ := hs; ⟨V.non, H', J.os, J.bare, J.base, J.hok, rfl, q⟩
  | brk => exact let ⟨_, _, _, q⟩ := hs; q.elim
  | cont => exact let ⟨_, _, _, q⟩ := hs; q.elim
/-- a def whose mirror is known -/
theorem ok_def {P : Program} {w : World} {K : PySem.W.Frag} {mg : Str → Option Value} {base : Heap} {x qual : Str} {st : Stmt} {f : Addr} {fd : FuncData} {N ps : List Str} {k : Nat} {fm : Rho → Store → Res Out}
    (F : Fun K x qual st f fd) (S : FnScope N ps (defScope st))
    (body : ∀ (cdv : Value) (A : Around) (outer : List Env) (s : Shared) (H : Hp) (E : XK), A.guards = some [] → Room k (A.deeper (envOfC qual (defScope st) s.heap.objs.size f cdv)) →
      ∃ ts, ∀ G, FSs (cxOf (L2.CX P w) P w K mg base N qual (defScope st) f cdv A outer s H E) G (fun _ => E) (defBody st) ts fm) :
    FnG P w K mg base (k + 1) f fd ps (spM K mg ps.length (mDef N.length fm)) := by
  refine fnG_of F S spM_len fun cdv A outer s H vs Q E hg hr h => ?_
  obtain ⟨ts, hb⟩ := body cdv A outer s H E hg hr
  exact ⟨ts, (hb ⟨[], [], fun _ => none, [], none⟩).pe, sim_def h fun G => (hb G).sim⟩
section
variable {X : Cx} {k : Nat} {f : Addr} {fd : FuncData} {ps ks : List Str} {sp : Sp} {E : XK} {x : Str} {p pos : Pos} {e : Expr} {es : List Expr} {t tk : TA}
theorem goG {pins : List (Addr × Obj)} {σ : L2.St} {H : Hp} {s : Shared} {Q : VK} {args : Args} {us : List Value} {vs : List V} (F : FnG X.prog X.w X.K X.mg X.base k f fd ps sp) (hg : X.A.guards = some []) (hr : Room k X.A) (hx : PassesAt (L2.CX X.prog X.w) X σ E) (I : Inv X pins σ H s)
    (hb : BindsTo s fd args (ps.zip us)) (r : Vals vs us) (h : sp vs H Q E) : codeAny (model X.prog X.w) X.A (.call (.ref f) args) (fun r s' => match r with | .ok (.ret u) => EP X pins σ Q u s' | .ok _ => False | .error e => X.xe e s') s := by
  refine codeAny_mono (F.go X.A X.stack s H args us vs Q E hg hr I.env0 hb r h) fun r s' hq => ?_
  match r, hq with
  | .error e, hq => exact hx pins H s e s' I hq
  | .ok (.ret u), hq => exact I.after hq
theorem callG {pins : List (Addr × Obj)} {σ : L2.St} {H : Hp} {s : Shared} {Q : VK} {kw : List (Str × Value)} {us0 us : List Value} {vs : List V} (F : FnG X.prog X.w X.K X.mg X.base k f fd ps sp) (hg : X.A.guards = some []) (hr : Room k X.A) (hx : PassesAt (L2.CX X.prog X.w) X σ E) (I : Inv X pins σ H s)
    (hb : BindsTo s fd ⟨us0, kw⟩ (ps.zip us)) (r : Vals vs us) (h : sp vs H Q E) : wpAny (model X.prog X.w) X.A (call (.ref f) us0 kw) (EP X pins σ Q) X.xe s := by
  refine wpAny_call (codeAny_mono (goG F hg hr hx I hb r h) fun r s' hq => ?_)
  match r, hq with
  | .error e, hq => exact hq
  | .ok (.ret u), hq => exact hq
theorem peG_call {E : EK} {dvs : List V} {ds : List Value} (F : FnG X.prog X.w X.K X.mg X.base k f fd ps sp) (hg0 : X.A.guards = some []) (hr : Room k X.A) (hg : Gl X x) (hm : X.mg x = some (.ref f)) (hk : PySem.W.keepIn X.K (.ref f) = true) (hb : Binds X.K fd ps ds) (hd : Vals dvs ds) (hx : ∀ σ, PassesAt (L2.CX X.prog X.w) X σ (E σ))
    (ha : PA X (e :: es) t) (hdb : (x == ("__debug__" : Str)) = false) (he : starEach (e :: es) X.env = (false, eval e X.env) :: starEach es X.env) (hpl : (backTo pos (starEach es X.env)).any (·.1) = false) : PE X (.Call (.Name x p) (e :: es) [] pos) (tCallSD sp dvs E t) :=
  ⟨fun pins s σ H Q I h => wpAny_Call_Name_kw (ld_glob I hg hm (PySem.W.callWith_K (h₀ := X.base) I.ok.mod.kin hk (thn (ha.run pos pins s σ H _ I h) fun us s1 ⟨vs, H1, I1, r, q⟩ => ⟨I1.kIn, by
    have r2 := r.append hd
    refine callG F hg0 hr (hx σ) I1 (hb s1 us I1.kIn ?_) r2 q
    rw [← r2.length]
    exact F.arity _ _ _ _ q⟩) he hpl) hdb)⟩
theorem peG_call0 {E : EK} {dvs : List V} {ds : List Value} (F : FnG X.prog X.w X.K X.mg X.base k f fd ps sp) (hg0 : X.A.guards = some []) (hr : Room k X.A) (hg : Gl X x) (hm : X.mg x = some (.ref f)) (hk : PySem.W.keepIn X.K (.ref f) = true) (hb : Binds X.K fd ps ds) (hd : Vals dvs ds) (hx : ∀ σ, PassesAt (L2.CX X.prog X.w) X σ (E σ))
    (hdb : (x == ("__debug__" : Str)) = false) : PE X (.Call (.Name x p) [] [] pos) (tCallSD sp dvs E tNil) :=
  ⟨fun pins s σ H Q I h => wpAny_Call_Name_kw (ld_glob I hg hm (PySem.W.callWith_K0 I.kIn hk (by
    have r2 : Vals ([] ++ dvs) ([] ++ ds) := hd
    refine callG (us0 := []) F hg0 hr (hx σ) I (hb s [] I.kIn ?_) r2 h
    rw [← r2.length]
    exact F.arity _ _ _ _ h)) hdb)⟩
variable {kws : List Keyword} {g : List Value → List Value → List Value} {gV : List V → List V → List V}
theorem callGK {pins : List (Addr × Obj)} {σ : L2.St} {H : Hp} {s : Shared} {Q : VK} {us ws : List Value} {vs zs : List V} (F : FnG X.prog X.w X.K X.mg X.base k f fd ps sp) (hg0 : X.A.guards = some []) (hr : Room k X.A) (hb : KBinds X.K fd ps ks g gV) (hx : PassesAt (L2.CX X.prog X.w) X σ E)
    (I : Inv X pins σ H s) (r : Vals vs us) (rz : Vals zs ws) (h : sp (gV vs zs) H Q E) : wpAny (model X.prog X.w) X.A (call (.ref f) us (ks.zip ws)) (EP X pins σ Q) X.xe s := by
  have r2 := hb.rel r rz
  refine callG F hg0 hr hx I (hb.to s us ws I.kIn ?_) r2 h
  rw [← r2.length]
  exact F.arity _ _ _ _ h
def tCallKS (sp : Sp) (gV : List V → List V → List V) (E : EK) (t tk : TA) : TE := fun σ H Q => t σ H fun vs H1 => tk σ H1 fun zs H2 => sp (gV vs zs) H2 Q (E σ)
theorem peG_callK {E : EK} (F : FnG X.prog X.w X.K X.mg X.base k f fd ps sp) (hg0 : X.A.guards = some []) (hr : Room k X.A) (hg : Gl X x) (hm : X.mg x = some (.ref f)) (hk : PySem.W.keepIn X.K (.ref f) = true) (hb : KBinds X.K fd ps ks g gV) (hx : ∀ σ, PassesAt (L2.CX X.prog X.w) X σ (E σ))
    (ha : PA X (e :: es) t) (hkw : PK X kws tk) (hall : (backToKw pos (keywordEach kws X.env)).all (·.1.isSome) = true) (hks : (backToKw pos (keywordEach kws X.env)).filterMap (·.1) = ks)
    (hdb : (x == ("__debug__" : Str)) = false) (he : starEach (e :: es) X.env = (false, eval e X.env) :: starEach es X.env)
    (hpl : ((backTo pos (starEach (e :: es) X.env)).any (·.1) || (backToKw pos (keywordEach kws X.env)).any (·.1.isNone)) = false) : PE X (.Call (.Name x p) (e :: es) kws pos) (tCallKS sp gV E t tk) :=
  ⟨fun pins s σ H Q I h => wpAny_Call_Name_kw (ld_glob I hg hm (PySem.W.callWith_KW (h₀ := X.base) I.ok.mod.kin hk hall (thn (ha.run pos pins s σ H _ I h) fun us s1 ⟨vs, H1, I1, r, q⟩ =>
    thn (hkw.run pos pins s1 σ H1 _ I1 q) fun ws s2 ⟨zs, H2, I2, rz, q2⟩ => ⟨I2.kIn, by rw [hks]; exact callGK F hg0 hr hb (hx σ) I2 r rz q2⟩) hpl he) hdb)⟩
theorem peG_callK0 {E : EK} (F : FnG X.prog X.w X.K X.mg X.base k f fd ps sp) (hg0 : X.A.guards = some []) (hr : Room k X.A) (hg : Gl X x) (hm : X.mg x = some (.ref f)) (hk : PySem.W.keepIn X.K (.ref f) = true) (hb : KBinds X.K fd ps ks g gV) (hx : ∀ σ, PassesAt (L2.CX X.prog X.w) X σ (E σ))
    (hkw : PK X kws tk) (hall : (backToKw pos (keywordEach kws X.env)).all (·.1.isSome) = true) (hks : (backToKw pos (keywordEach kws X.env)).filterMap (·.1) = ks) (hdb : (x == ("__debug__" : Str)) = false)
    (hpl : ((backTo pos (starEach [] X.env)).any (·.1) || (backToKw pos (keywordEach kws X.env)).any (·.1.isNone)) = false) : PE X (.Call (.Name x p) [] kws pos) (tCallKS sp gV E tNil tk) :=
  ⟨fun pins s σ H Q I h => wpAny_Call_Name_kw (ld_glob I hg hm (PySem.W.callWith_KW0 (h₀ := X.base) I.ok.mod.kin hk hall (thn (hkw.run pos pins s σ H _ I h) fun ws s2 ⟨zs, H2, I2, rz, q2⟩ => ⟨I2.kIn, by rw [hks]; exact callGK (us := []) (vs := []) F hg0 hr hb (hx σ) I2 .nil rz q2⟩) hpl) hdb)⟩
end

/-! ### calls -/
section
variable {X : Cx} {G : Wd} {E : EK}
theorem post_call {K : PySem.W.Frag} {w w1 : Wd} {Q : VK} {x : PV} {S : Store} (k : WOk K w) (k1 : WOk K w1) (s1 : WStep w w1) (h : PostV K w Q x S) : PostX K w1 Q x S := fun w' v e s' k' r => by
  have hO : ∀ a ∈ w1.O ++ w'.L, a ∈ w'.O := fun a h => (List.mem_append.mp h).elim (s'.omono a) (k'.sub a)
  have ext : ∀ a o, w'.hc a = some o → cut w'.H (w1.O ++ w'.L) a = some o := fun a o h => by
    obtain ⟨h1, h2⟩ := cut_some h
    rw [cut_out fun z => h1 (hO a z)]
    exact h2
  refine h { w' with O := w1.O ++ w'.L } v e (s1.tr (w1 := w1) ⟨s'.pre, s'.keep, fun a h => List.mem_append_left _ h, fun a h => ?_, s'.lset⟩ k k1) ⟨fun a h => List.mem_append_right _ h, k'.nd, k'.len, fun n o a h1 h2 => (k'.st n o a h1 h2).mono (List.prefix_refl _) ext, fun a h => k'.dom a (hO a h)⟩ r
  rcases List.mem_append.mp h with h | h
  · exact .inl h
  · rcases s'.lset a h with z | z
    · exact .inl (k1.sub a z)
    · exact .inr z
/-- a call of a def: dps the defaults that are not given -/
def mCall (n : Nat) (m : List PV → Store → Res PV) (dps : List PV) (fa : Rho → Store → Res (List PV)) : Rho → Store → Res PV := fun ρ S => (fa ρ S).bind fun xs S1 => if (xs ++ dps).length = n then m (xs ++ dps) S1 else .bad
theorem sim_call {K mg} {n : Nat} {m : List PV → Store → Res PV} {dps : List PV} {dvs : List V} {t : TA} {fa} (hd : ∀ L Hc, RVs K L Hc dps dvs) (ha : ASim K mg G E t fa) : ESim K mg G E (tCallSD (spM K mg n m) dvs E t) (mCall n m dps fa) := fun w ρ σ Q I q => by
  refine ha w ρ σ _ I (Good.imp (Good.bind1 q) (fun xs S1 h1 => ?_) fun _ _ _ h => h)
  intro w1 vs e1 s1 k1 r1
  subst e1
  obtain ⟨c, h1⟩ := good_if h1
  exact ⟨xs ++ dps, w1, rfl, k1, r1.append (hd _ _), c, Good.imp h1 (fun x S h => post_call I.ok k1 s1 h) fun _ _ _ h => h.step s1 I.ok k1⟩
theorem fe_call {k : Nat} {f : Addr} {fd : FuncData} {ps : List Str} {n : Nat} {m : List PV → Store → Res PV} {x : Str} {p pos e es t fa} (F : FnG X.prog X.w X.K X.mg X.base k f fd ps (spM X.K X.mg n m)) (hg0 : X.A.guards = some []) (hr : Room k X.A) (hm : X.mg x = some (.ref f)) (hk : PySem.W.keepIn X.K (.ref f) = true)
    (hb : Binds X.K fd ps []) (hx : ∀ σ, PassesAt (L2.CX X.prog X.w) X σ (E σ)) (ha : FA X G E (e :: es) t fa) (hg : Gl X x := by rfl) (hdb : (x == ("__debug__" : Str)) = false := by decide) (he : starEach (e :: es) X.env = (false, eval e X.env) :: starEach es X.env := by rfl)
    (hpl : (backTo pos (starEach es X.env)).any (·.1) = false := by rfl) : FE X G E (.Call (.Name x p) (e :: es) [] pos) (tCallSD (spM X.K X.mg n m) [] E t) (mCall n m [] fa) :=
  ⟨peG_call F hg0 hr hg hm hk hb .nil hx ha.pe hdb he hpl, sim_call (fun _ _ => rfl) ha.sim⟩
/-- gP: how the parameters come of the positional values and the keywords' ones -/
def mCallK (n : Nat) (m : List PV → Store → Res PV) (gP : List PV → List PV → List PV) (fa fk : Rho → Store → Res (List PV)) : Rho → Store → Res PV := fun ρ S => (fa ρ S).bind fun xs S1 => (fk ρ S1).bind fun ys S2 => if (gP xs ys).length = n then m (gP xs ys) S2 else .bad
theorem sim_callK {K mg} {n : Nat} {m : List PV → Store → Res PV} {gP : List PV → List PV → List PV} {gV} {t tk : TA} {fa fk} (hg : ∀ L Hc xs ys vs us, RVs K L Hc xs vs → RVs K L Hc ys us → RVs K L Hc (gP xs ys) (gV vs us)) (ha : ASim K mg G E t fa) (hk : ASim K mg G E tk fk) : ESim K mg G E (tCallKS (spM K mg n m) gV E t tk) (mCallK n m gP fa fk) := fun w ρ σ Q I q => by
  refine ha w ρ σ _ I (Good.imp (Good.bind1 q) (fun xs S1 h1 => ?_) fun _ _ _ h => h)
  intro w1 vs e1 s1 k1 r1
  subst e1
  have I1 := I.step s1 k1
  refine hk w1 ρ σ _ I1 (Good.imp (Good.bind1 h1) (fun ys S2 h2 => ?_) fun _ _ _ h => h.step s1 I.ok k1)
  intro w2 us e2 s2 k2 r2
  subst e2
  have s12 := s1.tr s2 I.ok k1
  obtain ⟨c, h2⟩ := good_if h2
  exact ⟨gP xs ys, w2, rfl, k2, hg _ _ _ _ _ _ (r1.mono s2.pre (s2.ext k1.sub)) r2, c, Good.imp h2 (fun x S h => post_call I.ok k2 s12 h) fun _ _ _ h => h.step s12 I.ok k2⟩
theorem fe_callK {k : Nat} {f : Addr} {fd : FuncData} {ps ks : List Str} {n : Nat} {m : List PV → Store → Res PV} {x : Str} {p pos e es t fa kws tk fk g gV} {gP : List PV → List PV → List PV} (F : FnG X.prog X.w X.K X.mg X.base k f fd ps (spM X.K X.mg n m)) (hg0 : X.A.guards = some []) (hr : Room k X.A) (hm : X.mg x = some (.ref f)) (hk : PySem.W.keepIn X.K (.ref f) = true)
    (hb : KBinds X.K fd ps ks g gV) (hgP : ∀ L Hc xs ys vs us, RVs X.K L Hc xs vs → RVs X.K L Hc ys us → RVs X.K L Hc (gP xs ys) (gV vs us)) (hx : ∀ σ, PassesAt (L2.CX X.prog X.w) X σ (E σ)) (ha : FA X G E (e :: es) t fa) (hkw : FK X G E kws tk fk) (hg : Gl X x := by rfl) (hall : (backToKw pos (keywordEach kws X.env)).all (·.1.isSome) = true := by rfl) (hks : (backToKw pos (keywordEach kws X.env)).filterMap (·.1) = ks := by rfl)
    (hdb : (x == ("__debug__" : Str)) = false := by decide) (he : starEach (e :: es) X.env = (false, eval e X.env) :: starEach es X.env := by rfl)
    (hpl : ((backTo pos (starEach (e :: es) X.env)).any (·.1) || (backToKw pos (keywordEach kws X.env)).any (·.1.isNone)) = false := by rfl) :
    FE X G E (.Call (.Name x p) (e :: es) kws pos) (tCallKS (spM X.K X.mg n m) gV E t tk) (mCallK n m gP fa fk) :=
  ⟨peG_callK F hg0 hr hg hm hk hb hx ha.pe hkw.pe hall hks hdb he hpl, sim_callK hgP ha.sim hkw.sim⟩
theorem fe_callK0 {k : Nat} {f : Addr} {fd : FuncData} {ps ks : List Str} {n : Nat} {m : List PV → Store → Res PV} {x : Str} {p pos kws tk fk g gV} {gP : List PV → List PV → List PV} (F : FnG X.prog X.w X.K X.mg X.base k f fd ps (spM X.K X.mg n m)) (hg0 : X.A.guards = some []) (hr : Room k X.A) (hm : X.mg x = some (.ref f)) (hk : PySem.W.keepIn X.K (.ref f) = true)
    (hb : KBinds X.K fd ps ks g gV) (hgP : ∀ L Hc xs ys vs us, RVs X.K L Hc xs vs → RVs X.K L Hc ys us → RVs X.K L Hc (gP xs ys) (gV vs us)) (hx : ∀ σ, PassesAt (L2.CX X.prog X.w) X σ (E σ)) (hkw : FK X G E kws tk fk) (hg : Gl X x := by rfl) (hall : (backToKw pos (keywordEach kws X.env)).all (·.1.isSome) = true := by rfl) (hks : (backToKw pos (keywordEach kws X.env)).filterMap (·.1) = ks := by rfl)
    (hdb : (x == ("__debug__" : Str)) = false := by decide)
    (hpl : ((backTo pos (starEach [] X.env)).any (·.1) || (backToKw pos (keywordEach kws X.env)).any (·.1.isNone)) = false := by rfl) :
    FE X G E (.Call (.Name x p) [] kws pos) (tCallKS (spM X.K X.mg n m) gV E tNil tk) (mCallK n m gP mNil fk) :=
  ⟨peG_callK0 F hg0 hr hg hm hk hb hx hkw.pe hall hks hdb hpl, sim_callK hgP (fun w ρ σ Q I h => h w [] rfl (WStep.refl I.ok.sub) I.ok rfl) hkw.sim⟩
end
end Mir
set_option maxHeartbeats 4000000
/-! Mir6: the law's end, repr, sum of a tuple. -/
namespace Mir
open PySem PySem.Spec PyProof.Rows L2

theorem cx_false {P : Program} {w : World} {H : Hp} {s s' : Shared} {e : Value} (h : L2.CX P w [] H s (fun _ _ _ => False) e s') : False := by
  obtain ⟨_, _, _, _, _, _, _, _, _, _, _, _, z⟩ := h
  exact z.elim
/-- the script's heap: the script alone, locked -/
def scrH (a : Addr) (o : Obj) (xs : List V) : Hp := fun b => if b = a then some (.frz o (.lst xs)) else none
theorem scrH_some {a : Addr} {o : Obj} {xs : List V} {b : Addr} {u : HO} (h : scrH a o xs b = some u) : b = a ∧ u = .frz o (.lst xs) := by
  unfold scrH at h
  split at h
  · cases h; exact ⟨‹_›, rfl⟩
  · cases h
/-- the law called over the heap behind the top -/
theorem law_run {P : Program} {w : World} {K : PySem.W.Frag} {mg mb : Str → Option Value} {k : Nat} {fa a : Addr} {fd : FuncData} {x : Str} {sp : Sp} {s1 : Shared} {vs : List Value} {ns : List Int}
    (KX : K.In s1.heap) (hns : s1.heap.Ns mainGlobals mg) (hb : s1.heap.Ns builtinsNs mb) (hbb : ∀ x : Str, x ≠ "__name__" → mb x = bootBuiltins x) (hlim : s1.heap.NoLimit) (hg : s1.gens = #[])
    (ha : s1.heap.get? a = some { cls := .type "list", data := .seq vs.toArray }) (hi : IntsAre vs ns) (hl : ns.length ≤ sizeLine) (hr : Room k callerA)
    (F : ∀ base : Heap, K.In base → base.Ns mainGlobals mg → FnG P w K mg base k fa fd [x] sp) (hbind : ∀ (s : Shared) (u : Value), BindsTo s fd ⟨[u], []⟩ [(x, u)])
    (hsp : ∀ H : Hp, Only H → SqL K H a (ns.map V.int) → sp [.ref a] H (fun v _ => v = .bl true) fun _ _ _ => False) :
    codeAny (model P w) callerA (.call (.ref fa) ⟨[.ref a], []⟩) (fun r s' => r = .ok (.ret (.bool true)) ∧ OldK s1.heap s'.heap ∧ s'.os = s1.os ∧ AllBare s'.gens) s1 := by
  -- over an abstract heap that holds the script alone, or nothing
  have key : ∀ H : Hp, (∀ b u, H b = some u → b = a ∧ K.lookup a = none ∧ u = .frz { cls := .type "list", data := .seq vs.toArray } (.lst (ns.map V.int))) → SqL K H a (ns.map V.int) →
      codeAny (model P w) callerA (.call (.ref fa) ⟨[.ref a], []⟩) (fun r s' => r = .ok (.ret (.bool true)) ∧ OldK s1.heap s'.heap ∧ s'.os = s1.os ∧ AllBare s'.gens) s1 := by
    intro H only hS
    have free : ∀ b, b ≠ a → H b = none := fun b n => by
      cases q : H b with
      | none => rfl
      | some u => exact absurd (only b u q).1 n
    have hok : HOk P w H s1.heap := fun b u q => by
      obtain ⟨rfl, _, rfl⟩ := only b u q
      exact ⟨ha, by rw [List.length_map]; exact hl, vs, _, vals_ints hi, ha⟩
    have nsok : ∀ {b : Addr} {m : Str → Option Value}, s1.heap.Ns b m → (hidT s1.heap H).Ns b m := by
      rintro b m ⟨o, es, ep, e, d, r⟩
      refine ⟨o, es, ep, hidT_get e (free b ?_), d, r⟩
      rintro rfl
      rw [ha] at e
      cases e
      have d' : Data.seq vs.toArray _ = Data.dict es ep := d
      cases d'
    have kb : K.In (hidT s1.heap H) := fun b o e => hidT_get (KX b o e) (by
      cases q : H b with
      | none => rfl
      | some u =>
        obtain ⟨rfl, z, _⟩ := only b u q
        rw [z] at e; cases e)
    have md : Mod K mg (hidT s1.heap H) := by
      obtain ⟨mc, h1, h2⟩ := hlim
      exact ⟨kb, nsok hns, ⟨mb, nsok hb, hbb⟩, mc, nsok h1, h2⟩
    have hOnly : Only H := fun b => by
      cases q : H b with
      | none => exact .inl rfl
      | some u => exact .inr ⟨_, _, by rw [(only b u q).2.2]⟩
    have e0 : Env0 P w K mg (hidT s1.heap H) callerA [] s1 H := ⟨rfl, md, fun b o e => of_hidT e, Nat.le_of_eq (hidT_size _ _), trivial, fun b hb => by simp [frs] at hb, hok, .of_eq hg⟩
    refine codeAny_mono ((F _ kb (nsok hns)).go callerA [] s1 H ⟨[.ref a], []⟩ [.ref a] [.ref a] _ _ rfl hr e0 (hbind s1 (.ref a)) (.cons rfl .nil) (hsp H hOnly hS)) fun r s' h => ?_
    match r, h with
    | .error e, h => exact (cx_false h).elim
    | .ok (.ret u), h =>
      obtain ⟨v, H', os, bare, un, hok', rv, q⟩ := h
      have q : v = .bl true := q
      subst q
      have rv : u = Value.bool true := rv
      subst rv
      refine ⟨rfl, OldK.of_keep fun b o e => ?_, os, bare⟩
      cases q : H b with
      | none => exact un.keep b o e q (by simp [frs]) (by simp)
      | some z =>
        obtain ⟨rfl, _, rfl⟩ := only b z q
        have g1 := (hok b _ q).1
        have g2 := (hok' b _ (un.frzs b _ _ q)).1
        rw [e] at g1
        cases g1
        exact g2
  cases hk : K.lookup a with
  | some o =>
    have e := KX a o hk
    rw [ha] at e
    cases e
    exact key (fun _ => none) (fun b u q => nomatch q) (.inr ⟨_, vs.toArray, _, hk, rfl, rfl, rfl, by rw [List.size_toArray, hi.length]; exact hl, by simpa using vals_ints hi⟩)
  | none => exact key (scrH a _ (ns.map V.int)) (fun b u q => ⟨(scrH_some q).1, hk, (scrH_some q).2⟩) (.inl (.inr ⟨_, if_pos rfl⟩))
/-- the law's promise: its mirror gives True of every script -/
theorem spM_law {K : PySem.W.Frag} {mg : Str → Option Value} {m : List PV → Store → Res PV} {H : Hp} {a : Addr} {ns : List Int} (hS : SqL K H a (ns.map V.int)) (hm : ∃ S, m [.cl (ns.map PV.int)] [] = .ok (.bl true) S) : spM K mg 1 m [.ref a] H (fun v _ => v = .bl true) fun _ _ _ => False := by
  obtain ⟨S, e⟩ := hm
  have rs : ∀ (L : List Addr) (Hc : Hp) (l : List Int), RVs K L Hc (l.map PV.int) (l.map V.int) := fun L Hc l => by
    induction l with
    | nil => rfl
    | cons i l ih => exact ⟨_, _, rfl, rfl, ih⟩
  refine ⟨[.cl (ns.map PV.int)], ⟨[], [], H, [], none⟩, rfl, ⟨fun _ h => (nomatch h), List.nodup_nil, rfl, fun n o a h => by simp at h, fun _ h => (nomatch h)⟩, ⟨_, [], rfl, ⟨a, ns.map V.int, rfl, ?_, rs _ _ ns⟩, rfl⟩, rfl, ?_⟩
  · have : (Wd.hc ⟨[], [], H, [], none⟩) = H := by
      funext b
      show cut H [] b = H b
      rw [cut_out (by simp)]
    rw [this]
    exact hS
  · show Good (m [.cl (ns.map PV.int)] []) _ _
    rw [e]
    exact fun w' v _ _ _ r => r
/-- the goal behind the head, from the law's mirror -/
theorem walk_mir {l : PySem.W.OpenLaw} {n k : Nat} {q : Program} {loose : List Str} {XP : (Str → Option Value) → Heap → Prop} {YP : World → Heap → Prop} {d : DefRec} {x : Str} {m : List PV → Store → Res PV}
    (hn : l.most = some n) (hn2 : n ≤ sizeLine) (hdf : d.params.defaults = []) (hr : Room k callerA)
    (F : ∀ (w : World) (mg : Str → Option Value) (fa : Addr) (h : Heap), YP w h → h.Ns mainGlobals mg → mg d.name = some (.ref fa) →
      ∃ (K : PySem.W.Frag) (fd : FuncData), K.In h ∧ (∀ (s : Shared) (u : Value), BindsTo s fd ⟨[u], []⟩ [(x, u)]) ∧ ∀ base : Heap, K.In base → base.Ns mainGlobals mg → FnG l.prog w K mg base k fa fd [x] (spM K mg 1 m))
    (hm : ∀ ns : List Int, ns.length ≤ n → ∃ S, m [.cl (ns.map PV.int)] [] = .ok (.bl true) S) :
    PySem.W.WalkO q loose XP YP l.row.toRowW d [] (fun f vs => PySem.call f vs) := by
  refine Att.attach_call hn hdf fun w s0 s1 mg mb fa o pm cd doc a vs ns G Y ho hd hcd hmg hobj hints hlen hg => ?_
  obtain ⟨K, fd, KX, hb, hF⟩ := F w mg fa _ Y G.T.g hmg
  exact law_run KX G.T.g G.T.b G.T.builtins G.T.nolimit hg hobj hints (Nat.le_trans hlen hn2) hr hF hb fun H _ hS => spM_law hS (hm ns hlen)
end Mir
set_option maxHeartbeats 4000000
/-! Mir7: repr, sum of a tuple. -/
namespace Mir
open PySem PySem.Spec PyProof.Rows L2

mutual
def toD : PV → Option PyData
  | .non => some .none
  | .bl b => some (.bool b)
  | .int i => some (.int i)
  | .str x => some (.str x)
  | .tup xs => (toDs xs).map .tuple
  | .lst xs => (toDs xs).map .list
  | .cl xs => (toDs xs).map .list
  | .obj _ => none
  | .dk _ _ => none
  | .ins _ _ _ => none
  | .fn _ => none
def toDs : List PV → Option (List PyData)
  | [] => some []
  | x :: xs => match toD x, toDs xs with
    | some d, some ds => some (d :: ds)
    | _, _ => none
end
mutual
theorem toD_noDict : ∀ {x : PV} {d : PyData}, toD x = some d → d.hasDict = false
  | .non, _, h => by simp only [toD] at h; cases h; rfl
  | .bl _, _, h => by simp only [toD] at h; cases h; rfl
  | .int _, _, h => by simp only [toD] at h; cases h; rfl
  | .str _, _, h => by simp only [toD] at h; cases h; rfl
  | .tup xs, _, h => by
    simp only [toD, Option.map_eq_some_iff] at h
    obtain ⟨ds, e, rfl⟩ := h
    simp only [PyData.hasDict]
    exact toDs_noDict e
  | .lst xs, _, h => by
    simp only [toD, Option.map_eq_some_iff] at h
    obtain ⟨ds, e, rfl⟩ := h
    simp only [PyData.hasDict]
    exact toDs_noDict e
  | .cl xs, _, h => by
    simp only [toD, Option.map_eq_some_iff] at h
    obtain ⟨ds, e, rfl⟩ := h
    simp only [PyData.hasDict]
    exact toDs_noDict e
  | .obj _, _, h => by simp only [toD] at h; cases h
  | .dk _ _, _, h => by simp only [toD] at h; cases h
  | .ins _ _ _, _, h => by simp only [toD] at h; cases h
  | .fn _, _, h => by simp only [toD] at h; cases h
theorem toDs_noDict : ∀ {xs : List PV} {ds : List PyData}, toDs xs = some ds → PyData.hasDictAll ds = false
  | [], _, h => by simp only [toDs] at h; cases h; rfl
  | x :: xs, _, h => by
    simp only [toDs] at h
    split at h
    · rename_i d ds e1 e2
      cases h
      simp only [PyData.hasDictAll, toD_noDict e1, toDs_noDict e2, Bool.or_false]
    · cases h
end
mutual
theorem toD_dp {K : PySem.W.Frag} {L : List Addr} {Hc H : Hp} (e : ∀ a o, Hc a = some o → H a = some o) : ∀ {x : PV} {d : PyData} {v : V}, toD x = some d → RV K L Hc x v → Dp K H v d
  | .non, _, v, h, r => by
    simp only [toD] at h; cases h
    have r : v = .non := r
    subst r; exact .non
  | .bl b, _, v, h, r => by
    simp only [toD] at h; cases h
    have r : v = .bl b := r
    subst r; exact .bl b
  | .int i, _, v, h, r => by
    simp only [toD] at h; cases h
    have r : v = .int i := r
    subst r; exact .int i
  | .str x, _, v, h, r => by
    simp only [toD] at h; cases h
    have r : v = .str x := r
    subst r; exact .str x
  | .tup xs, _, v, h, r => by
    simp only [toD, Option.map_eq_some_iff] at h
    obtain ⟨ds, e1, rfl⟩ := h
    obtain ⟨a, vs, rfl, r1, r2⟩ := r
    exact .tup (sqT_mono e r1) (toDs_dp e e1 r2)
  | .lst xs, _, v, h, r => by
    simp only [toD, Option.map_eq_some_iff] at h
    obtain ⟨ds, e1, rfl⟩ := h
    obtain ⟨a, vs, rfl, r1, r2⟩ := r
    exact .lst (.inl (.inl (e _ _ r1))) (toDs_dp e e1 r2)
  | .cl xs, _, v, h, r => by
    simp only [toD, Option.map_eq_some_iff] at h
    obtain ⟨ds, e1, rfl⟩ := h
    obtain ⟨a, vs, rfl, r1, r2⟩ := r
    exact .lst (sqL_mono e r1) (toDs_dp e e1 r2)
  | .obj _, _, _, h, _ => by simp only [toD] at h; cases h
  | .dk _ _, _, _, h, _ => by simp only [toD] at h; cases h
  | .ins _ _ _, _, _, h, _ => by simp only [toD] at h; cases h
  | .fn _, _, _, h, _ => by simp only [toD] at h; cases h
theorem toDs_dp {K : PySem.W.Frag} {L : List Addr} {Hc H : Hp} (e : ∀ a o, Hc a = some o → H a = some o) : ∀ {xs : List PV} {ds : List PyData} {vs : List V}, toDs xs = some ds → RVs K L Hc xs vs → DpAll K H vs ds
  | [], _, vs, h, r => by
    simp only [toDs] at h; cases h
    have r : vs = [] := r
    subst r; exact .nil
  | x :: xs, _, vs, h, r => by
    simp only [toDs] at h
    split at h
    · rename_i d ds e1 e2
      cases h
      obtain ⟨v, us, rfl, r1, r2⟩ := r
      exact .cons (toD_dp e e1 r1) (toDs_dp e e2 r2)
    · cases h
end
def rRepr (K : PySem.W.Frag) : List V → Hp → VK → Prop := fun xs H Q => ∃ x d, xs = [x] ∧ Dp K H x d ∧ PyData.showable d = true ∧ d.hasDict = false ∧ d.shown.length ≤ sizeLine ∧ d.depth ≤ 60 ∧ Q (.str d.shown) H
theorem call_reprD {X : Cx} {k : Nat} (hr : Room k X.A) (hg : X.A.guards = some []) : CallR X (.builtin "repr") (rRepr X.K) := by
  intro pins s σ H xs us Q I r h
  obtain ⟨x, d, rfl, dp, hs, hd, hz, hdep, q⟩ := h
  obtain ⟨u, rfl, ru⟩ := vals1 r
  cases dp with
  | non =>
    cases ru
    exact PySem.P.repr_of_none ⟨.str _, H, I.tok _, ⟨_, rfl⟩, by simp only [PyData.shown] at q; exact q⟩
  | bl b =>
    cases ru
    exact PySem.P.repr_of_bool ⟨.str _, H, I.tok _, ⟨_, rfl⟩, by simp only [PyData.shown] at q; exact q⟩
  | int i =>
    obtain ⟨t, rfl⟩ := ru
    exact PySem.P.repr_of_int (by simpa [PyData.showable] using hs) ⟨.str _, H, I.tok _, ⟨_, rfl⟩, by simp only [PyData.shown] at q; exact q⟩
  | str z =>
    obtain ⟨t, rfl⟩ := ru
    exact PySem.P.repr_of_str ⟨.str _, H, I.tok _, ⟨_, rfl⟩, by simp only [PyData.shown] at q; exact q⟩ (hsz := by simpa [PyData.shown] using hz)
  | @lst a ys ds h1 h2 =>
    obtain ⟨as, rd⟩ := Dp.reads I (.list ds) (.ref a) u (.lst h1 h2) ru
    cases ru
    have hun := hr.un
    exact repr_of_reads' rd hs (PyData.noDict_hsm hd) hg (by omega) (fun _ _ e => e) (fun h' t tk kp => ⟨.str _, H, I.kept (t' := tk) kp, ⟨t, rfl⟩, q⟩) hz
  | @tup a ys ds h1 h2 =>
    obtain ⟨as, rd⟩ := Dp.reads I (.tuple ds) (.ref a) u (.tup h1 h2) ru
    cases ru
    have hun := hr.un
    exact repr_of_reads' rd hs (PyData.noDict_hsm hd) hg (by omega) (fun _ _ e => e) (fun h' t tk kp => ⟨.str _, H, I.kept (t' := tk) kp, ⟨t, rfl⟩, q⟩) hz
def reprOk (d : PyData) : Bool := PyData.showable d && decide (d.shown.length ≤ sizeM) && decide (d.depth ≤ 60)
def gRepr : List PV → Store → Res PV
  | [x], S => match toD x with
    | some d => if reprOk d = true then .ok (.str d.shown) S else .bad
    | none => .bad
  | _, _ => .bad
theorem ra_repr {K : PySem.W.Frag} {mg : Str → Option Value} {E : XK} : RASim K mg E (rRepr K) gRepr := fun w xs vs Q k r g => by
  match xs, g, r with
  | [x], g, r =>
    obtain ⟨v, rfl, r1⟩ := vs1 r
    have g : Good (match toD x with | some d => (if reprOk d = true then Res.ok (.str d.shown) w.S else .bad) | none => .bad) (PostV K w Q) (ExP K mg E w) := g
    cases e : toD x with
    | none => rw [e] at g; exact g.elim
    | some d =>
      rw [e] at g
      obtain ⟨c, g⟩ := good_if g
      unfold reprOk at c
      simp only [Bool.and_eq_true, decide_eq_true_eq] at c
      exact ⟨v, d, rfl, toD_dp (fun a o h => (cut_some h).2) e r1, c.1.1, toD_noDict e, sizeM_le c.1.2, c.2, post_self k g rfl rfl⟩

/-! sum of a list, of a tuple -/
section
variable {prog : Program} {w : World} {A : Around} {E : Value → Shared → Prop} {s : Shared}
theorem sum_tup {l : Addr} {its : List Value} {ns : List Int} {Q : Value → Shared → Prop} (hh : A.handled = none) (hl : s.heap.IsTuple l its.toArray) (hi : IntsAre its ns)
    (h : ∀ h' tk t', (∀ b o, s.heap.get? b = some o → h'.get? b = some o) → Q (.int ns.sum t') { s with heap := h', toks := tk }) : wpAny (model prog w) A (call (.builtin "sum") [.ref l]) Q E s := by
  obtain ⟨xs, e⟩ := hi.allInts.items
  have hn : numsOf (intItems xs).toList = ns := by rw [← e]; exact hi.numsOf
  rw [nums_intItems] at hn
  rw [e] at hl
  have hlt : l < s.heap.objs.size := let ⟨_, z, _⟩ := hl; Heap.lt_size z
  refine call_sum_walkG (PySem.W.iter_tupleW (A := A.in1) hh hl fun s2 e2 W st hfp hn1 hk => ⟨_, _, _, _, _, _, numAt xs, rfl, Walks.tuple (A := A.in1) hh _ l (Nat.ne_of_lt hlt) (intItems xs), st, hfp, fun _ _ => intItems_at, fun h' tk t' kp => ?_⟩)
  subst e2
  have := h h' tk t' fun b o z => kp b o (hn1 b o z) (hk b o z)
  rw [preSum_eq, List.take_of_length_le (by simp [intItems]), hn]
  exact this
end
def rSumT (K : PySem.W.Frag) : List V → Hp → VK → Prop := fun vs H Q => ∃ (a : Addr) (ns : List Int), vs = [V.ref a] ∧ SqT K H a (ns.map V.int) ∧ Q (.int ns.sum) H
theorem vals_are : ∀ {ns : List Int} {us : List Value}, Vals (ns.map V.int) us → IntsAre us ns
  | [], us, r => by
    cases r
    exact .nil
  | n :: ns, us, r => by
    cases r with
    | cons r1 r2 =>
      obtain ⟨t, rfl⟩ := r1
      exact .cons n t (vals_are r2)
theorem cr_sumT {X : Cx} (hc : X.calm = true) : CallR X (.builtin "sum") (rSumT X.K) := by
  intro pins s σ H vs us Q I r h
  obtain ⟨a, ns, rfl, hs, q⟩ := h
  obtain ⟨u, rfl, ru⟩ := vals1 r
  cases ru
  obtain ⟨its, rv, p, _⟩ := I.tuple hs
  exact sum_tup (I.ok.hd hc) (show s.heap.IsTuple a its.toArray from p) (vals_are rv) fun h' tk t' kp => ⟨.int _, H, I.kept (t' := tk) kp, ⟨t', rfl⟩, q⟩
theorem CallR.or {X : Cx} {f : Value} {r r' : List V → Hp → VK → Prop} (h : CallR X f r) (h' : CallR X f r') : CallR X f (fun xs H Q => r xs H Q ∨ r' xs H Q) := fun pins s σ H xs us Q I rv q => q.elim (h pins s σ H xs us Q I rv) (h' pins s σ H xs us Q I rv)
def gSum : List PV → Store → Res PV
  | [.lst xs], S => match xs.mapM toI with | some bs => .ok (.int bs.sum) S | none => .bad
  | [.tup xs], S => match xs.mapM toI with | some bs => .ok (.int bs.sum) S | none => .bad
  | _, _ => .bad
theorem ra_sumA {K : PySem.W.Frag} {mg : Str → Option Value} {E : XK} : RASim K mg E (fun xs H Q => rSum K xs H Q ∨ rSumT K xs H Q) gSum := fun w xs vs Q k r g => by
  match xs, g, r with
  | [.lst ys], g, r => exact .inl (ra_sum (mg := mg) (E := E) w [.lst ys] vs Q k r g)
  | [.tup ys], g, r =>
    obtain ⟨v, rfl, a, us, rfl, r1, r2⟩ := vs1 r
    have g : Good (match ys.mapM toI with | some bs => Res.ok (.int bs.sum) w.S | none => Res.bad) (PostV K w Q) (ExP K mg E w) := g
    cases e : ys.mapM toI with
    | none => rw [e] at g; exact g.elim
    | some bs =>
      rw [e] at g
      exact .inr ⟨a, bs, rfl, by rw [← toIs_rv e r2]; exact hc_sqT r1, post_self k g rfl rfl⟩
end Mir
set_option maxHeartbeats 4000000
/-! Mir8: reads of lists that are still being filled; shorter forms for printed derivations. -/
namespace Mir
open PySem PySem.Spec PyProof.Rows L2
section
variable {X : Cx} {G : Wd} {E : EK} {E1 : XK}
/-- x[k], x a list of ours -/
def mIxOwn (i : Nat) (fk : Rho → Store → Res PV) : Rho → Store → Res PV := fun ρ S => match ρ[i]? with
  | some (.own (.lst xs)) => (fk ρ S).bind fun k S1 => gIx (.lst xs) k S1
  | _ => .bad
theorem fe_ixOwn {i : Nat} {x : Str} {px b pos tb fb} (hb : FE X G E b tb fb) (hx : PE X (.Name x px) (tVar i)) (hp : PlainIx b := by exact fun _ _ => rfl) : FE X G E (.Subscript (.Name x px) b pos) (tOp (rIx X.K) (tVar i) tb) (mIxOwn i fb) := ⟨pe_ix ix_seq hx hb.pe hp, fun w ρ σ Q I q => by
  unfold mIxOwn at q
  split at q
  · rename_i xs hi
    obtain ⟨p, a, b, c, d, vs, r1, r2⟩ := I.own i _ hi
    refine ⟨.ref p, a, hb.sim w ρ σ _ I (Good.imp (Good.bind1 q) (fun k S1 h1 => ?_) fun _ _ _ h => h)⟩
    intro w1 u e1 s1 k1 rk
    subst e1
    obtain ⟨j, rfl⟩ : ∃ j, k = .int j := by cases k <;> first | exact h1.elim | exact ⟨_, rfl⟩
    have h1 : Good (match atI xs j with | some y => Res.ok y w1.S | none => Res.bad) (PostV X.K w Q) (ExP X.K X.mg (E σ) w) := h1
    cases e : atI xs j with
    | none => rw [e] at h1; exact h1.elim
    | some y =>
      rw [e] at h1
      obtain ⟨t, e1, e2⟩ := at_rv (r2.mono s1.pre (s1.ext I.ok.sub)) e
      exact .inl ⟨p, vs, j, t, rfl, rk, .inl (.inl (s1.keep p _ r1 c)), e1, h1 w1 t rfl s1 k1 e2⟩
  · exact q.elim⟩
/-- len(x), x a list of ours -/
def mLenOwn (i : Nat) : Rho → Store → Res PV := fun ρ S => match ρ[i]? with
  | some (.own (.lst xs)) => .ok (.int xs.length) S
  | _ => .bad
theorem fe_lenOwn {i : Nat} {x : Str} {p px pos} (hx : PE X (.Name x px) (tVar i)) (hm : X.mg "len" = none) (hg : Gl X "len" := by rfl)
    (he : starEach [.Name x px] X.env = (false, eval (.Name x px) X.env) :: starEach [] X.env := by rfl) : FE X G E (.Call (.Name "len" p) [.Name x px] [] pos) (tCB (fun xs H Q => ∃ x n, xs = [x] ∧ LenV X.K x H n ∧ Q (.int n) H) (tCons (tVar i) tNil)) (mLenOwn i) :=
  ⟨pe_callB call_len hg hm (by decide +kernel) (pa_cons hx pa_nil he) (by decide) (by decide) he rfl, fun w ρ σ Q I q => by
  unfold mLenOwn at q
  split at q
  · rename_i xs hi
    obtain ⟨p, a, b, c, d, vs, r1, r2⟩ := I.own i _ hi
    exact ⟨.ref p, a, _, _, rfl, .inl ⟨vs, .inl (.inl r1), r2.len.symm⟩, q w (.int xs.length) rfl (WStep.refl I.ok.sub) I.ok rfl⟩
  · exact q.elim⟩

/-! short forms -/
theorem fs_setV {i : Nat} {x : Str} {pos' pos e te f} (nd : X.N.Nodup) (hi : X.N[i]? = some x) (hx : Loc X.env.scope x) (he : FE X G E e te f) (hs : swapsWith e (some (.Name x pos')) pos.line X.env = pure false := by rfl) (hf : X.fn x = true ∨ X.env.scope.names.lookup x = some .local := by first | exact .inl rfl | exact .inr rfl) :
    FS X G E (.Assign [.Name x pos'] e pos) (tAsg te (gName i)) (mSet i f) := fs_set he (ps_set nd hi hx he.pe hs hf)
theorem fs_setO {i : Nat} {x : Str} {pos' pos e te f} (nd : X.N.Nodup) (hi : X.N[i]? = some x) (hx : Loc X.env.scope x) (he : FN X G E e te f) (hs : swapsWith e (some (.Name x pos')) pos.line X.env = pure false := by rfl) (hf : X.fn x = true ∨ X.env.scope.names.lookup x = some .local := by first | exact .inl rfl | exact .inr rfl) :
    FS X G E (.Assign [.Name x pos'] e pos) (tAsg te (gName i)) (mSetOwn i f) := fs_own he (ps_set nd hi hx he.pe hs hf)
theorem fs_setS {i : Nat} {x : Str} {pos' pos e te f} (nd : X.N.Nodup) (hi : X.N[i]? = some x) (hx : Loc X.env.scope x) (he : FN X G E e te f) (hs : swapsWith e (some (.Name x pos')) pos.line X.env = pure false := by rfl) (hf : X.fn x = true ∨ X.env.scope.names.lookup x = some .local := by first | exact .inl rfl | exact .inr rfl) :
    FS X G E (.Assign [.Name x pos'] e pos) (tAsg te (gName i)) (mShare i f) := fs_share he (ps_set nd hi hx he.pe hs hf)
theorem fs_app {i : Nat} {x : Str} {px pa pc pos e te f} (hx : PE X (.Name x px) (tVar i)) (he : FE X G E e te f)
    (hbase : attributeBase (.Name x px) "append" X.env (eval (.Name x px) X.env) = eval (.Name x px) X.env := by rfl)
    (hfew : ((backTo pc (starEach [e] X.env)).all (fun x => !x.1) && (backToKw pc (keywordEach [] X.env)).all (fun x => x.1.isSome) && decide ([e].length + ([] : List Keyword).length + (if ([] : List Keyword).isEmpty then 0 else 1) < 30)) = true := by rfl)
    (hline : (pa.endLine == pc.line) = true := by rfl) (hs : starEach [e] X.env = (false, eval e X.env) :: starEach [] X.env := by rfl) (hsw : swapsWith (.Call (.Attribute (.Name x px) "append" pa) [e] [] pc) none pos.line X.env = pure false := by rfl) :
    FS X G E (.Expr (.Call (.Attribute (.Name x px) "append" pa) [e] [] pc) pos) (tDrop (tBM X.K "list" rAppend (tVar i) (tCons te tNil))) (mAppend i f) :=
  fs_append he hx (ps_expr (pe_bm PySem.F.plainAttrs_list PySem.F.slot_list_append PySem.F.type_list_append mt_append hx (pa_cons he.pe pa_nil hs) hbase hfew hline hs (by rfl)) hsw)
/-- a store o[k] = u, spelled -/
abbrev SubAsg (X : Cx) (o k : Expr) (p : Pos) : Prop := ∀ u, assign (.Subscript o k p) X.env u = (do
  let a ← holding [u] (eval o X.env)
  let b ← holding [u, a] (eval k X.env)
  standAt p
  holding [u, a, b] (setItem a b u)
  release [u, a, b] [])
theorem fs_put {i : Nat} {x : Str} {px pt pos k e tk te fk f} (hx : PE X (.Name x px) (tVar i)) (hk : FE X G (fun _ => E1) k tk fk) (he : FE X G (fun _ => E1) e te f) (ha : SubAsg X (.Name x px) k pt := by intro _; rfl) (hs : swapsWithSole [.Subscript (.Name x px) k pt] e pos.line X.env = pure false := by rfl) (hw : swappedStores [.Subscript (.Name x px) k pt] e X.env = pure none := by rfl)
    (h1 : (assignEach [.Subscript (.Name x px) k pt] X.env).map (·.2) = [assign (.Subscript (.Name x px) k pt) X.env] := by rfl) :
    FS X G (fun _ => E1) (.Assign [.Subscript (.Name x px) k pt] e pos) (tAsg te (L2.gSub (tVar i) tk rSetL)) (mSetIx i fk f) := fs_setIx he hk (ps_asg he.pe (pg_sub hx hk.pe set_list ha) hs hw h1)
theorem passes_def {P : Program} {w : World} {K : PySem.W.Frag} {mg : Str → Option Value} {base : Heap} {N : List Str} {qual : Str} {sc : Scope} {f : Addr} {cd : Value} {A : Around} {outer : List Env} {s : Shared} {H : Hp} {E : XK} :
    Passes (L2.CX P w) (cxOf (L2.CX P w) P w K mg base N qual sc f cd A outer s H E) E :=
  passes_call (W := fun c d _ H => E c d H) (takes_of rfl rfl rfl rfl) fun _ _ _ _ h => h
theorem own_def {P : Program} {w : World} {K : PySem.W.Frag} {mg : Str → Option Value} {base : Heap} {N : List Str} {qual : Str} {sc : Scope} {f : Addr} {cd : Value} {A : Around} {outer : List Env} {s : Shared} {H : Hp} {E : XK} :
    PassesOwn (model (cxOf (L2.CX P w) P w K mg base N qual sc f cd A outer s H E).prog (cxOf (L2.CX P w) P w K mg base N qual sc f cd A outer s H E).w) (cxOf (L2.CX P w) P w K mg base N qual sc f cd A outer s H E).A (cxOf (L2.CX P w) P w K mg base N qual sc f cd A outer s H E).env (cxOf (L2.CX P w) P w K mg base N qual sc f cd A outer s H E).xe :=
  passes_of rfl
theorem fs_forV {tg iter body pos wi g tb fi fg fb} (hp : PassesOwn (model X.prog X.w) X.A X.env X.xe) (hc : X.calm = true) (hi : FIt X G (fun _ => E1) tg iter wi fi) (hg : FG X G E1 tg g fg) (hb : FSs X G (fun _ => E1) body tb fb) (hs : ∀ x, foldedSetIterable iter X.env x = pure x := by intro _; rfl) : FS X G (fun _ => E1) (.For tg iter body [] pos) (tFor wi g tb) (mFor fi fg fb) :=
  fs_for hi hg hb (ps_for hp hc hi.pe hg.pe hb.pe hs)

/-! + and * of everything -/
def gAddA : PV → PV → Store → Res PV
  | .lst xs, .lst ys, S => if xs.length + ys.length ≤ sizeM then .ok (.lst (xs ++ ys)) S else .bad
  | x, y, S => gAdd x y S
def gMulA : PV → PV → Store → Res PV
  | .lst xs, .int k, S => if (decide (xs.length * k.toNat ≤ sizeM) && decide (-1000000 ≤ k) && decide (k ≤ 1000000)) = true then .ok (.lst (List.replicate k.toNat xs).flatten) S else .bad
  | .tup xs, .int k, S => if (decide (xs.length ≠ 0) && (decide (2 ≤ k) && (decide (k ≤ 1000) && decide (xs.length ≤ 1000)))) = true then .ok (.tup (List.replicate k.toNat xs).flatten) S else .bad
  | x, y, S => gMul x y S
abbrev rAddA (K : PySem.W.Frag) : R2 := fun x y H Q => rCat x y H Q ∨ (rI0 (fun i j => .int (i + j)) x y H Q ∨ ((∃ i j, x = V.str i ∧ y = .str j ∧ i.length + j.length ≤ sizeLine ∧ Q (.str (i ++ j)) H) ∨ rCatA K x y H Q))
theorem op_addA : OpR X (binaryOp .Add) (rAddA X.K) := op_cat.or (op_add.or (op_add_str.or op_catA))
theorem post_put {K w Q} {xs : List PV} {vs : List V} (k : WOk K w) (r : RVs K w.L w.hc xs vs) (h : PostV K w Q (.lst xs) w.S) : ∀ p, w.H p = none → Q (.ref p) (upd w.H p (.lst vs)) := fun p hp =>
  h (w.put p (.lst vs)) (.ref p) rfl (put_step k hp) (put_ok k hp) ⟨p, vs, rfl, put_at k hp, r.mono (List.prefix_refl _) (put_ext hp)⟩
theorem r2_addA {K mg E} : R2Sim K mg E (rAddA K) gAddA := fun w x y v u Q k rx ry g => by
  by_cases hl : ∃ xs ys, x = .lst xs ∧ y = .lst ys
  · obtain ⟨xs, ys, rfl, rfl⟩ := hl
    obtain ⟨c, g⟩ := good_if g
    obtain ⟨a, vs, rfl, r1, r2⟩ := rx
    obtain ⟨b, us, rfl, r3, r4⟩ := ry
    exact .inl ⟨a, b, vs, us, rfl, rfl, hc_lst r1, hc_lst r3, by rw [r2.len, r4.len]; exact sizeM_le c, post_put k (r2.append r4) g⟩
  · refine .inr (r2_add (mg := mg) (E := E) w x y v u Q k rx ry ?_)
    have e : gAddA x y w.S = gAdd x y w.S := by
      cases x <;> cases y <;> first | rfl | exact absurd ⟨_, _, rfl, rfl⟩ hl
    rw [← e]
    exact g
abbrev rMulA (K : PySem.W.Frag) : R2 := fun x y H Q => rRep x y H Q ∨ (rRepT K x y H Q ∨ rI CMul (fun i j => .int (i * j)) x y H Q)
theorem op_mulA : OpR X (binaryOp .Mult) (rMulA X.K) := op_rep.or (op_repT.or op_mul)
theorem r2_mulA {K mg E} : R2Sim K mg E (rMulA K) gMulA := fun w x y v u Q k rx ry g => by
  by_cases hl : ∃ xs i, x = .lst xs ∧ y = .int i
  · obtain ⟨xs, i, rfl, rfl⟩ := hl
    obtain ⟨c, g⟩ := good_if g
    simp only [Bool.and_eq_true, decide_eq_true_eq] at c
    obtain ⟨a, vs, rfl, r1, r2⟩ := rx
    exact .inl ⟨a, _, vs, rfl, ry, hc_lst r1, by omega, by omega, by rw [r2.len]; exact sizeM_le c.1.1, post_put k (r2.flat _) g⟩
  · by_cases ht : ∃ xs i, x = .tup xs ∧ y = .int i
    · obtain ⟨xs, i, rfl, rfl⟩ := ht
      obtain ⟨c, g⟩ := good_if g
      simp only [Bool.and_eq_true, decide_eq_true_eq] at c
      obtain ⟨a, vs, rfl, r1, r2⟩ := rx
      refine .inr (.inl ⟨a, _, vs, rfl, ry, hc_sqT r1, fun e => c.1 (by rw [← r2.len, e]; rfl), c.2.1, c.2.2.1, by rw [r2.len]; exact c.2.2.2, fun p hp => ?_⟩)
      exact g (w.put p (.tup (List.replicate i.toNat vs).flatten)) (.ref p) rfl (put_step k hp) (put_ok k hp) ⟨p, _, rfl, .inl (.inl (put_at k hp)), (r2.mono (List.prefix_refl _) (put_ext hp)).flat _⟩
    · refine .inr (.inr (r2_mul (mg := mg) (E := E) w x y v u Q k rx ry ?_))
      have e : gMulA x y w.S = gMul x y w.S := by
        cases x <;> cases y <;> first | rfl | exact absurd ⟨_, _, rfl, rfl⟩ hl | exact absurd ⟨_, _, rfl, rfl⟩ ht
      rw [← e]
      exact g
theorem sl_any : SlR X (fun x lo hi H Q => rSlA X.K x lo hi H Q ∨ (rSlS x lo hi H Q ∨ rSlL X.K x lo hi H Q)) := sl_tupA.or (sl_str.or sl_list)
theorem cr_sumA (hc : X.calm = true) : CallR X (.builtin "sum") (fun xs H Q => rSum X.K xs H Q ∨ rSumT X.K xs H Q) := Mir.CallR.or (cr_sum hc) (cr_sumT hc)
/-- a written tuple of ints -/
theorem rv_writ {K : PySem.W.Frag} {a : Addr} {o : Obj} {its : Array Value} {n : Nat} (l : K.lookup a = some o) (c : o.cls = .type "tuple") (d : o.data = .seq its n) (hz : its.size ≤ sizeLine) (ns : List Int) (r : Vals (ns.map V.int) its.toList) : ∀ L Hc, RV K L Hc (.tup (ns.map PV.int)) (.ref a) := fun L Hc => by
  refine ⟨a, ns.map V.int, rfl, .inr ⟨o, its, n, l, c, d, hz, r⟩, ?_⟩
  clear r
  induction ns with
  | nil => rfl
  | cons i l ih => exact ⟨_, _, rfl, rfl, ih⟩
end
end Mir
set_option maxHeartbeats 4000000
/-! Mir8b: the rules with the written part named (so that what they read does not hang on the block they stand in). -/
namespace Mir
open PySem PySem.Spec PyProof.Rows L2
section
variable {X : Cx} {G : Wd} {E : EK} {E1 : XK} (K : PySem.W.Frag)
theorem kAdd (h : X.K = K := by rfl) : OpR X (binaryOp .Add) (rAddA K) := h ▸ op_addA
theorem kMul (h : X.K = K := by rfl) : OpR X (binaryOp .Mult) (rMulA K) := h ▸ op_mulA
theorem kIx (h : X.K = K := by rfl) : IxR X (rIx K) := h ▸ ix_seq
theorem kIn (h : X.K = K := by rfl) : OpR X (compareOp .In) (rIn K false) := h ▸ op_in_seq
theorem kNotIn (h : X.K = K := by rfl) : OpR X (compareOp .NotIn) (rIn K true) := h ▸ op_notIn_seq
abbrev rSlAny : V → Option Int → Option Int → Hp → VK → Prop := fun x lo hi H Q => rSlA K x lo hi H Q ∨ (rSlS x lo hi H Q ∨ rSlL K x lo hi H Q)
theorem kSl (h : X.K = K := by rfl) : SlR X (rSlAny K) := h ▸ sl_any
abbrev rLenA : List V → Hp → VK → Prop := fun xs H Q => ∃ x n, xs = [x] ∧ LenV K x H n ∧ Q (.int n) H
theorem kLen (h : X.K = K := by rfl) : CallR X (.builtin "len") (rLenA K) := h ▸ call_len
abbrev rTupleA : List V → Hp → VK → Prop := fun xs H Q => ∃ p ys, xs = [V.ref p] ∧ ((SqL K H p ys ∧ ∀ l, H l = none → Q (.ref l) (upd H l (.tup ys))) ∨ (SqT K H p ys ∧ Q (.ref p) H))
theorem kTuple (h : X.K = K := by rfl) : CallR X (.type "tuple") (rTupleA K) := h ▸ call_tuple_of
abbrev rListA : List V → Hp → VK → Prop := fun xs H Q => ∃ p ys, xs = [V.ref p] ∧ (SqL K H p ys ∨ SqT K H p ys) ∧ ∀ l, H l = none → Q (.ref l) (upd H l (.lst ys))
theorem kList (h : X.K = K := by rfl) : CallR X (.type "list") (rListA K) := h ▸ call_list_of
theorem kAll (hc : X.calm = true := by rfl) (h : X.K = K := by rfl) : CallR X (.builtin "all") (rAll K) := h ▸ cr_all hc
theorem kAny (hc : X.calm = true := by rfl) (h : X.K = K := by rfl) : CallR X (.builtin "any") (rAny K) := h ▸ cr_any hc
abbrev rSumA : List V → Hp → VK → Prop := fun xs H Q => rSum K xs H Q ∨ rSumT K xs H Q
theorem kSum (hc : X.calm = true := by rfl) (h : X.K = K := by rfl) : CallR X (.builtin "sum") (rSumA K) := h ▸ cr_sumA hc
theorem kRepr {k : Nat} (hr : Room k X.A) (hg : X.A.guards = some []) (h : X.K = K := by rfl) : CallR X (.builtin "repr") (rRepr K) := h ▸ call_reprD hr hg
abbrev iSeq (te : TE) : TI := fun σ H R => iList K te σ H R ∨ iTup K te σ H R
theorem it_seq {tg e te f} (h : FE X G E e te f) (hK : X.K = K := by rfl) : FIt X G E tg e (iSeq K te) (mSeqOf f) := hK ▸ fit_seq h
theorem ke_isi {T : String} {Tn : Str} {p pT pos e te f} (hm : X.mg "isinstance" = none) (hT : X.mg Tn = none) (he : FE X G E e te f) (hK : X.K = K := by rfl) (hg : Gl X "isinstance" := by rfl) (hgT : Gl X Tn := by rfl) (hb : bootBuiltins Tn = some (.type T) := by decide +kernel) (hn : Tn ≠ "__name__" := by decide) (hdb : (Tn == ("__debug__" : Str)) = false := by decide)
    (hs : starEach [e, .Name Tn pT] X.env = (false, eval e X.env) :: starEach [.Name Tn pT] X.env := by rfl) (hpl : (backTo pos (starEach [.Name Tn pT] X.env)).any (·.1) = false := by rfl) (hs2 : starEach [.Name Tn pT] X.env = (false, eval (.Name Tn pT) X.env) :: starEach [] X.env := by rfl) :
    FE X G E (.Call (.Name "isinstance" p) [e, .Name Tn pT] [] pos) (tCB (rIsi K) (tCons te (tCons (tC (.ty T)) tNil))) (mIsi T f) := hK ▸ fe_isi hm hT he hg hgT hb hn hdb hs hpl hs2
theorem ke_ixOwn {i : Nat} {x : Str} {px b pos tb fb} (hb : FE X G E b tb fb) (hx : PE X (.Name x px) (tVar i)) (hK : X.K = K := by rfl) (hp : PlainIx b := by exact fun _ _ => rfl) : FE X G E (.Subscript (.Name x px) b pos) (tOp (rIx K) (tVar i) tb) (mIxOwn i fb) := hK ▸ fe_ixOwn hb hx hp
theorem ke_lenOwn {i : Nat} {x : Str} {p px pos} (hx : PE X (.Name x px) (tVar i)) (hm : X.mg "len" = none) (hK : X.K = K := by rfl) (hg : Gl X "len" := by rfl)
    (he : starEach [.Name x px] X.env = (false, eval (.Name x px) X.env) :: starEach [] X.env := by rfl) : FE X G E (.Call (.Name "len" p) [.Name x px] [] pos) (tCB (rLenA K) (tCons (tVar i) tNil)) (mLenOwn i) := hK ▸ fe_lenOwn hx hm hg he
end
/-- positional values and keywords' values, in a row -/
def kbG {α : Type} (p q : Nat) (us ws : List α) : List α := if us.length = p ∧ ws.length = q then us ++ ws else []
theorem kbG_vals {p q : Nat} {vs zs : List V} {us ws : List Value} (a : Vals vs us) (b : Vals zs ws) : Vals (kbG p q vs zs) (kbG p q us ws) := by
  unfold kbG
  rw [a.length, b.length]
  split
  · exact a.append b
  · exact .nil
theorem kbG_rv {p q : Nat} (K : PySem.W.Frag) (L : List Addr) (Hc : Hp) (xs ys : List PV) (vs us : List V) (a : RVs K L Hc xs vs) (b : RVs K L Hc ys us) : RVs K L Hc (kbG p q xs ys) (kbG p q vs us) := by
  unfold kbG
  rw [a.len, b.len]
  split
  · exact a.append b
  · exact RVs.nil
/-- the context stands in this program -/
structure CtxIs (X : Cx) (P : Program) (w : World) (K : PySem.W.Frag) (mg : Str → Option Value) (base : Heap) : Prop where
  p : X.prog = P
  w : X.w = w
  k : X.K = K
  m : X.mg = mg
  b : X.base = base
section
variable {X : Cx} {G : Wd} {E : EK} {E1 : XK} {P : Program} {w : World} {K : PySem.W.Frag} {mg : Str → Option Value} {base : Heap}
theorem ke_call {k : Nat} {f : Addr} {fd : FuncData} {ps : List Str} {n : Nat} {m : List PV → Store → Res PV} {x : Str} {p pos e es t fa} (F : FnG P w K mg base k f fd ps (spM K mg n m)) (hg0 : X.A.guards = some []) (hr : Room k X.A) (hm : mg x = some (.ref f)) (hk : PySem.W.keepIn K (.ref f) = true)
    (hb : Binds K fd ps []) (hx : ∀ σ, PassesAt (L2.CX P w) X σ (E σ)) (ha : FA X G E (e :: es) t fa) (c : CtxIs X P w K mg base := by exact ⟨rfl, rfl, rfl, rfl, rfl⟩) (hg : Gl X x := by rfl) (hdb : (x == ("__debug__" : Str)) = false := by decide) (he : starEach (e :: es) X.env = (false, eval e X.env) :: starEach es X.env := by rfl)
    (hpl : (backTo pos (starEach es X.env)).any (·.1) = false := by rfl) : FE X G E (.Call (.Name x p) (e :: es) [] pos) (tCallSD (spM K mg n m) [] E t) (mCall n m [] fa) := by
  obtain ⟨rfl, rfl, rfl, rfl, rfl⟩ := c
  exact fe_call F hg0 hr hm hk hb hx ha hg hdb he hpl
theorem ke_callK {k : Nat} {f : Addr} {fd : FuncData} {ps ks : List Str} {n : Nat} {m : List PV → Store → Res PV} {x : Str} {p pos e es t fa kws tk fk g gV} {gP : List PV → List PV → List PV} (F : FnG P w K mg base k f fd ps (spM K mg n m)) (hg0 : X.A.guards = some []) (hr : Room k X.A) (hm : mg x = some (.ref f)) (hk : PySem.W.keepIn K (.ref f) = true)
    (hb : KBinds K fd ps ks g gV) (hgP : ∀ L Hc xs ys vs us, RVs K L Hc xs vs → RVs K L Hc ys us → RVs K L Hc (gP xs ys) (gV vs us)) (hx : ∀ σ, PassesAt (L2.CX P w) X σ (E σ)) (ha : FA X G E (e :: es) t fa) (hkw : FK X G E kws tk fk) (c : CtxIs X P w K mg base := by exact ⟨rfl, rfl, rfl, rfl, rfl⟩) (hg : Gl X x := by rfl) (hall : (backToKw pos (keywordEach kws X.env)).all (·.1.isSome) = true := by rfl) (hks : (backToKw pos (keywordEach kws X.env)).filterMap (·.1) = ks := by rfl)
    (hdb : (x == ("__debug__" : Str)) = false := by decide) (he : starEach (e :: es) X.env = (false, eval e X.env) :: starEach es X.env := by rfl)
    (hpl : ((backTo pos (starEach (e :: es) X.env)).any (·.1) || (backToKw pos (keywordEach kws X.env)).any (·.1.isNone)) = false := by rfl) :
    FE X G E (.Call (.Name x p) (e :: es) kws pos) (tCallKS (spM K mg n m) gV E t tk) (mCallK n m gP fa fk) := by
  obtain ⟨rfl, rfl, rfl, rfl, rfl⟩ := c
  exact fe_callK F hg0 hr hm hk hb hgP hx ha hkw hg hall hks hdb he hpl
theorem ke_callK0 {k : Nat} {f : Addr} {fd : FuncData} {ps ks : List Str} {n : Nat} {m : List PV → Store → Res PV} {x : Str} {p pos kws tk fk g gV} {gP : List PV → List PV → List PV} (F : FnG P w K mg base k f fd ps (spM K mg n m)) (hg0 : X.A.guards = some []) (hr : Room k X.A) (hm : mg x = some (.ref f)) (hk : PySem.W.keepIn K (.ref f) = true)
    (hb : KBinds K fd ps ks g gV) (hgP : ∀ L Hc xs ys vs us, RVs K L Hc xs vs → RVs K L Hc ys us → RVs K L Hc (gP xs ys) (gV vs us)) (hx : ∀ σ, PassesAt (L2.CX P w) X σ (E σ)) (hkw : FK X G E kws tk fk) (c : CtxIs X P w K mg base := by exact ⟨rfl, rfl, rfl, rfl, rfl⟩) (hg : Gl X x := by rfl) (hall : (backToKw pos (keywordEach kws X.env)).all (·.1.isSome) = true := by rfl) (hks : (backToKw pos (keywordEach kws X.env)).filterMap (·.1) = ks := by rfl)
    (hdb : (x == ("__debug__" : Str)) = false := by decide)
    (hpl : ((backTo pos (starEach [] X.env)).any (·.1) || (backToKw pos (keywordEach kws X.env)).any (·.1.isNone)) = false := by rfl) :
    FE X G E (.Call (.Name x p) [] kws pos) (tCallKS (spM K mg n m) gV E tNil tk) (mCallK n m gP mNil fk) := by
  obtain ⟨rfl, rfl, rfl, rfl, rfl⟩ := c
  exact fe_callK0 F hg0 hr hm hk hb hgP hx hkw hg hall hks hdb hpl
end
end Mir
set_option maxHeartbeats 4000000
/-! Mir9: heads: what the top leaves, told by names. -/
namespace Mir
open PySem PySem.Spec PyProof.Rows L2

theorem kb_of {K : PySem.W.Frag} {x qual : Str} {st : Stmt} {f : Addr} {fd : FuncData} {ps ks : List Str} {p q : Nat} (F : Fun K x qual st f fd) (hp : 0 < ps.length)
    (h : ∀ (kV doc pm : Value) (an : Option Addr) (cdv ct : Value) (us ws : List Value), us.length = p → ws.length = q → bindArgs (PySem.W.fnOf x qual (defArgs st) (defBody st) (defScope st) .none kV doc pm an cdv ct) ⟨us, ks.zip ws⟩ = pure (ps.zip (us ++ ws))) :
    KBinds K fd ps ks (kbG p q) (kbG p q) := by
  obtain ⟨oc, od, kV, doc, pm, an, cdv, ct, osl, rfl, lk, hcd⟩ := F.ex
  refine ⟨fun s us ws _ hl => ?_, fun a b => kbG_vals a b⟩
  unfold kbG at hl ⊢
  split at hl
  · rename_i c
    rw [if_pos c]
    exact .of_eq (h kV doc pm an cdv ct us ws c.1 c.2)
  · rw [← hl] at hp
    exact absurd hp (by simp)
theorem bind1 {K : PySem.W.Frag} {x qual p : Str} {st : Stmt} {f : Addr} {fd : FuncData} (F : Fun K x qual st f fd)
    (h : ∀ (kV doc pm : Value) (an : Option Addr) (cdv ct u : Value), bindArgs (PySem.W.fnOf x qual (defArgs st) (defBody st) (defScope st) .none kV doc pm an cdv ct) ⟨[u], []⟩ = pure [(p, u)]) (s : Shared) (u : Value) : BindsTo s fd ⟨[u], []⟩ [(p, u)] := by
  obtain ⟨oc, od, kV, doc, pm, an, cdv, ct, osl, rfl, lk, hcd⟩ := F.ex
  exact .of_eq (h kV doc pm an cdv ct u)
/-- a def without defaults -/
theorem fun_of {K : PySem.W.Frag} {x qual : Str} {st : Stmt} {f : Addr} {fd : FuncData} {kws : List (Str × V)} (F : FunD K x qual (defArgs st) (defBody st) (defScope st) [] kws f fd) : Fun K x qual st f fd := by
  obtain ⟨oc, od, dV, kV, doc, pm, an, cdv, ct, osl, e, l, c, d, _⟩ := F.ex
  rcases d with ⟨_, rfl⟩ | ⟨n, _⟩
  · exact ⟨⟨oc, od, kV, doc, pm, an, cdv, ct, osl, e, l, c⟩, F.kp⟩
  · exact absurd rfl n
theorem rv_ints {K : PySem.W.Frag} {L : List Addr} {Hc : Hp} : ∀ ns : List Int, RVs K L Hc (ns.map PV.int) (ns.map V.int)
  | [] => rfl
  | i :: l => ⟨_, _, rfl, rfl, rv_ints l⟩
theorem rv_tupB {K : PySem.W.Frag} {x : Str} {ns : List Int} (h : He.tupB K x (ns.map He.Dv.int) = true) (L : List Addr) (Hc : Hp) : RV K L Hc (.tup (ns.map PV.int)) (.ref (He.ga K x)) := by
  have e : (ns.map He.Dv.int).map (He.Dv.v K) = ns.map V.int := by
    rw [List.map_map]; rfl
  have q := He.tupB_ok h Hc
  rw [e] at q
  exact ⟨_, _, rfl, q, rv_ints ns⟩
theorem exB {l : List Bool} (h : l.all id = true) (i : Nat) {b : Bool} (hi : l[i]? = some b) : b = true := List.all_eq_true.mp h b (List.mem_of_getElem? hi)
/-! the head's hook: facts, defs, one Bool more -/
def obsM (n : Nat) (fa : List He.Fa) (fn : List He.DefD) (ex : PySem.W.Frag → Bool) (g : Addr → Option Obj) : He.AlD × Bool := (He.obsD fa fn (He.frG g (He.asD g n)), ex (He.frG g (He.asD g n)))
def hookM (n : Nat) (fa : List He.Fa) (fn : List He.DefD) (ex : PySem.W.Frag → Bool) : PySem.W.Hook where
  α := He.AlD × Bool
  obs := fun s => obsM n fa fn ex s.heap.get?
  val := fun _ => (He.valD fn, true)
  says := fun _ h => ∃ K : PySem.W.Frag, K.In h ∧ He.SaysD fa fn K ∧ ex K = true
  of := fun _ _ e => ⟨_, He.frG_in, congrArg Prod.fst e, congrArg Prod.snd e⟩
  keeps := fun _ _ _ ⟨K, hK, c⟩ k => ⟨K, PySem.W.Frag.In.keeps hK k, c⟩
def obM (n : Nat) (fa : List He.Fa) (fn : List He.DefD) (ex : PySem.W.Frag → Bool) (s : PySem.W.SharedT) : He.AlD × Bool := obsM n fa fn ex (HandSHeadRun.getT s)
theorem obM_eq {n : Nat} {fa : List He.Fa} {fn : List He.DefD} {ex : PySem.W.Frag → Bool} (s : PySem.W.SharedT) : obM n fa fn ex s = (hookM n fa fn ex).obs s.abs := by
  have e : HandSHeadRun.getT s = s.abs.heap.get? := funext fun a => HandSHeadRun.getT_eq s a
  unfold obM
  rw [e]
  rfl
end Mir
set_option maxHeartbeats 4000000
/-! MirX: exceptions: own classes with fields, raise, try, fields and isinstance in the suite. -/
namespace Mir
open PySem PySem.Spec PyProof.Rows L2

/-- what is known of the own exception class named c -/
structure XCls (K : PySem.W.Frag) (mg : Str → Option Value) (c : Str) (C fI : Addr) (flds : List Str) : Prop where
  gC : mg c = some (.ref C)
  T : OexC K C
  X : XfC K C
  iC : PySem.W.findIn K (.ref C) "__init__" = some (some (.ref fI))
  tI : PySem.W.typeIn K (.ref fI) = some (.type "function")
  no : ∀ f ∈ flds, PySem.W.findIn K (.ref C) f = some none
  cl : (PySem.W.clsIn K C).isSome = true
  ha : PySem.W.findIn K (.ref C) "__class__" = some (some (.builtin "object.__class__"))
  hn : PySem.W.specialIn K (.builtin "object.__class__") "__get__" = some (some (.builtin "getset_descriptor.__get__"))
  ht : PySem.W.takesIn K (.builtin "object.__class__") = some true
  hm : PySem.W.mroIn K C (.type "object") = some true
def oexB (K : PySem.W.Frag) (C : Addr) : Bool := match K.lookup C with
  | some ⟨.type "type", _, .cls cd, sl⟩ => (match cd.mro, sl.toList with
    | .ref C' :: bm, [_, _, _, _, some (.builtin n), _] => decide (C' = C) && (decide (n = "ValueError.__new__") && (!cd.hasDel && (cd.hasDict && HandSPX.refsVE bm)))
    | _, _ => false)
  | _ => false
theorem oexB_ok {K : PySem.W.Frag} {C : Addr} (q : oexB K C = true) : ∃ nm q N bs bm sn sub ab col dd k0 k1 k2 k3 k5, List.lookup C K = some (excClassObj nm q C N bs bm true sn sub ab col dd k0 k1 k2 k3 k5 "ValueError.__new__") ∧ HandSPX.refsVE bm = true := by
  unfold oexB at q
  split at q
  · rename_i dd cd sl ho
    split at q
    · rename_i C' bm k0 k1 k2 k3 n k5 hm hs
      simp only [Bool.and_eq_true, Bool.not_eq_true', decide_eq_true_eq] at q
      obtain ⟨rfl, rfl, hdel, hdi, ht⟩ := q
      obtain ⟨nm, bs, mro, ns, qn, hd, sn, sub, ab, col, del⟩ := cd
      dsimp only at hm hdel hdi
      subst hm hdel hdi
      have hsl : sl = #[k0, k1, k2, k3, some (.builtin "ValueError.__new__"), k5] := by
        obtain ⟨l⟩ := sl
        simp only at hs
        rw [hs]
      subst hsl
      exact ⟨nm, qn, ns, bs, bm, sn, sub, ab, col, dd, k0, k1, k2, k3, k5, ho, ht⟩
    · cases q
  · cases q
/-- the same as a Bool, of the class that stands at the global's name -/
def xclsB (K : PySem.W.Frag) (c : Str) (flds : List Str) : Bool :=
  He.eqO (PySem.W.nsIn K mainGlobals c) (some (some (.ref (He.ga K c)))) && (oexB K (He.ga K c) && (He.eqO (PySem.W.findIn K (.ref (He.ga K c)) "__setattr__") (some (some (.builtin "object.__setattr__"))) &&
  (decide (PySem.W.subIn K (.ref (He.ga K c)) (.type "BaseException") = some true) && (decide (PySem.W.typeIn K (.ref (He.ga K c)) = some (.type "type")) && (PySem.W.keepIn K (.ref (He.ga K c)) && (xfB K (He.ga K c) &&
  (He.eqO (PySem.W.findIn K (.ref (He.ga K c)) "__init__") (some (some (.ref (He.fAd K (c, some "__init__"))))) && (decide (PySem.W.typeIn K (.ref (He.fAd K (c, some "__init__"))) = some (.type "function")) &&
  ((flds.all fun f => He.eqO (PySem.W.findIn K (.ref (He.ga K c)) f) (some none)) && ((PySem.W.clsIn K (He.ga K c)).isSome && (He.eqO (PySem.W.findIn K (.ref (He.ga K c)) "__class__") (some (some (.builtin "object.__class__"))) &&
  (He.eqO (PySem.W.specialIn K (.builtin "object.__class__") "__get__") (some (some (.builtin "getset_descriptor.__get__"))) && (decide (PySem.W.takesIn K (.builtin "object.__class__") = some true) && decide (PySem.W.mroIn K (He.ga K c) (.type "object") = some true))))))))))))))
theorem xcls_ok {K : PySem.W.Frag} {h : Heap} {mg : Str → Option Value} {c : Str} {flds : List Str} (X : K.In h) (G : h.Ns mainGlobals mg) (q : xclsB K c flds = true) : XCls K mg c (He.ga K c) (He.fAd K (c, some "__init__")) flds := by
  obtain ⟨h1, q⟩ := He.ba q
  obtain ⟨h2, q⟩ := He.ba q
  obtain ⟨h3, q⟩ := He.ba q
  obtain ⟨h4, q⟩ := He.ba q
  obtain ⟨h5, q⟩ := He.ba q
  obtain ⟨h6, q⟩ := He.ba q
  obtain ⟨h7, q⟩ := He.ba q
  obtain ⟨h8, q⟩ := He.ba q
  obtain ⟨h9, q⟩ := He.ba q
  obtain ⟨h10, q⟩ := He.ba q
  obtain ⟨h11, q⟩ := He.ba q
  obtain ⟨h12, q⟩ := He.ba q
  obtain ⟨h13, q⟩ := He.ba q
  obtain ⟨h14, h15⟩ := He.ba q
  exact ⟨PySem.W.mg_of X G (He.eqO_ok h1), ⟨oexB_ok h2, He.eqO_ok h3, of_decide_eq_true h4, of_decide_eq_true h5, h6⟩, xfB_ok h7, He.eqO_ok h8, of_decide_eq_true h9, fun f hf => He.eqO_ok (List.all_eq_true.mp h10 f hf), h11, He.eqO_ok h12, He.eqO_ok h13, of_decide_eq_true h14, of_decide_eq_true h15⟩

/-! ### __init__ with one field -/
def spI1 (K : PySem.W.Frag) (f : Str) : Sp := fun vs H Q _ => ∃ (a C : Addr) (y : V), vs = [.ref a, y] ∧ OexC K C ∧ PySem.W.findIn K (.ref C) f = some none ∧ H a = some (exo a C none) ∧ ∀ dx, H dx = none → dx ≠ a → Q .non (upd (upd H dx (exd dx [(f, y)])) a (exo a C (some dx)))
theorem ok_init1 {P : Program} {w : World} {K : PySem.W.Frag} {mg : Str → Option Value} {base : Heap} {qual fld sf nf : Str} {st : Stmt} {f : Addr} {fd : FuncData} {ap : Pos} {np vp sp : Pos} {k : Nat} (F : Fun K "__init__" qual st f fd) (S : FnScope [sf, nf] [sf, nf] (defScope st))
    (hb : defBody st = [.Assign [.Attribute (.Name sf np) fld ap] (.Name nf vp) sp])
    (h0 : ∀ (X : Cx) (N : List Str), X.N = [sf, nf] → X.env.scope = defScope st → True := by intros; trivial)
    (pv0 : ∀ (cdv : Value) (A : Around) (outer : List Env) (s : Shared) (H : Hp) (E : XK), PE (cxOf (L2.CX P w) P w K mg base [sf, nf] qual (defScope st) f cdv A outer s H E) (.Name sf np) (tVar 0))
    (pv1 : ∀ (cdv : Value) (A : Around) (outer : List Env) (s : Shared) (H : Hp) (E : XK), PE (cxOf (L2.CX P w) P w K mg base [sf, nf] qual (defScope st) f cdv A outer s H E) (.Name nf vp) (tVar 1))
    (hs : ∀ (X : Cx), swapsWith (.Name nf vp) (some (.Attribute (.Name sf np) fld ap)) sp.line X.env = pure false) :
    FnOk P w K mg base (L2.CX P w) (k + 1) f fd [sf, nf] (spI1 K fld) := by
  refine Fun.okX F S (fun vs H Q E ⟨a, C, y, e, _⟩ => by rw [e]; rfl) fun cdv A outer s H vs Q E hr ⟨a, C, y, e, T, no, hH, q⟩ => ?_
  subst e
  refine ⟨_, by rw [hb]; exact pss_one (ps_ost (pv0 cdv A outer s H E) (pv1 cdv A outer s H E) (hs _)), ?_⟩
  exact ⟨y, rfl, .ref a, rfl, a, C, rfl, T, no, .inl ⟨hH, q⟩⟩
theorem passes_no {X : Cx} : Passes (L2.CX X.prog X.w) X (fun _ _ _ => False) := fun _ _ _ _ _ _ _ ⟨_, _, _, _, _, _, _, _, _, _, _, _, z⟩ => z.elim

/-! ### raise -/
def mRaise (c : Str) (flds : List Str) (fa : Rho → Store → Res (List PV)) : Rho → Store → Res Out := fun ρ S => (fa ρ S).bind fun xs S1 => if xs.length = flds.length then .exc c (flds.zip xs) S1 else .bad
section
variable {X : Cx} {G : Wd} {E : EK}
theorem fs_raise1 {c fld : Str} {C fI : Addr} {k : Nat} {fd : FuncData} {ps : List Str} {p pos pos' : Pos} {e : Expr} {ta fa} (T : XCls X.K X.mg c C fI [fld]) (F : FnOk X.prog X.w X.K X.mg X.base (L2.CX X.prog X.w) k fI fd ps (spI1 X.K fld)) (hr : Room (k + 1) X.A) (hb : Binds X.K fd ps [])
    (hc : X.calm = true) (tk : Takes X fun c d σ H => E σ c d H) (ha : FA X G E [e] ta fa) (hg : Gl X c := by rfl) (hdb : (c == ("__debug__" : Str)) = false := by decide)
    (he : starEach [e] X.env = (false, eval e X.env) :: starEach [] X.env := by rfl) (hpl : (backTo pos (starEach [] X.env)).any (·.1) = false := by rfl) :
    FS X G E (.Raise (some (.Call (.Name c p) [e] [] pos)) none pos') (fun _ σ H => tMkO C (spI1 X.K fld) [] ta σ H fun cls d H' => E σ cls d H') (mRaise c [fld] fa) :=
  ⟨ps_raise (W := fun c d σ H => E σ c d H) hc tk (pmk_oex T.T T.iC T.tI F hr hb .nil passes_no hg T.gC ha.pe hdb he hpl), fun w ρ σ D I q => by
  refine ha.sim w ρ σ _ I (Good.imp (Good.bind1 q) (fun xs S1 h1 => ?_) fun _ _ _ h => h.step I.stp I.gok I.ok)
  intro w1 vs e1 s1 k1 r1
  subst e1
  obtain ⟨hl, h1⟩ := good_if h1
  match xs, hl with
  | [x], _ =>
    obtain ⟨v, rfl, rv⟩ := vs1 r1
    refine ⟨by simp, fun a ha => ⟨a, C, v, rfl, T.T, T.no fld List.mem_cons_self, upd_same, fun dx h1x hne => ?_⟩⟩
    have hdx : w1.H dx = none := by rw [upd_ne hne] at h1x; exact h1x
    refine ⟨rfl, dx, [(fld, v)], upd_same, ?_, hdx, ?_⟩
    · rw [upd_ne hne, upd_same]
    · have eq : upd (del (upd (upd (upd w1.H a (exo a C none)) dx (exd dx [(fld, v)])) a (exo a C (some dx))) a) dx (HO.xd [(fld, v)]) = upd w1.H dx (HO.xd [(fld, v)]) := by
        funext b
        by_cases e1 : b = dx
        · subst e1; rw [upd_same, upd_same]
        · rw [upd_ne e1, upd_ne e1]
          by_cases e2 : b = a
          · subst e2; rw [del_same, ha]
          · rw [del_ne e2, upd_ne e2, upd_ne e1, upd_ne e2]
      rw [eq]
      have I1 := I.step s1 k1
      exact h1 (w1.put dx (.xd [(fld, v)])) C dx [(fld, v)] rfl (I1.stp.tr (put_step k1 hdx) I1.gok k1) (put_ok k1 hdx) T.gC (put_at k1 hdx) ⟨v, [], rfl, rv.mono (List.prefix_refl _) (put_ext hdx), rfl⟩⟩

/-! ### try -/
/-- whatever the slots hold -/
def ExAll (W : WX) (n : Nat) : XK := fun c d H => ∀ σ : L2.St, σ.length = n → W c d σ H
theorem takes_all {W : WX} (tk : Takes X W) : Takes X (fun c d _ H => ExAll W X.N.length c d H) := fun u s' ⟨a, B, sI, pins, σ, H, cls, d, e, J, h1, h2, h3, h4, h5, h6, h7⟩ =>
  tk u s' ⟨a, B, sI, pins, σ, H, cls, d, e, J, h1, h2, h3, h4, h5, h6, h7 σ J.len⟩
/-- the exception that the suite holds: at a, of the class cls, with the dict d -/
def PinOk (mg : Str → Option Value) (G : Wd) (a : Addr) (cls : Value) (d : Option Addr) : Prop := ∃ d0 P, G.pin = some (a, d0, P) ∧ ∀ c, P c → d = some d0 ∧ ∃ C, cls = .ref C ∧ mg c = some (.ref C)
theorem pinOk_some (mg : Str → Option Value) (a : Addr) (cls : Value) (d : Option Addr) : ∃ G, PinOk mg G a cls d := ⟨⟨[], [], fun _ => none, [], some (a, 0, fun _ => False)⟩, 0, _, rfl, fun _ h => h.elim⟩
theorem takes0X : Takes X (fun _ _ _ _ => False) := fun _ _ ⟨_, _, _, _, _, _, _, _, _, _, _, _, _, _, _, _, w⟩ => w.elim
theorem lookup_mem {c : Str} {b : Bool} : ∀ {l : List (Str × Bool)}, l.lookup c = some b → (c, b) ∈ l
  | [], h => by simp at h
  | (d, x) :: l, h => by
    rw [List.lookup_cons] at h
    by_cases e : c == d
    · rw [e] at h
      have : c = d := beq_iff_eq.mp e
      subst this
      simp at h
      subst h
      exact List.mem_cons_self
    · rw [Bool.not_eq_true] at e
      rw [e] at h
      exact List.mem_cons_of_mem _ (lookup_mem h)
/-! ### in the suite -/
variable {a : Addr} {oe : Obj} {cls : Value} {d : Option Addr} {pn : List (Addr × Obj)}
/-- e.f, e the exception in hand (slot i), of one of the classes cs -/
def mFld (i : Nat) (cs : List Str) (f : Str) : Rho → Store → Res PV := fun ρ S => match ρ[i]? with
  | some (.pin c fs) => if cs.contains c = true then (match fs.lookup f with
    | some x => .ok x S
    | none => .bad) else .bad
  | _ => .bad
theorem rf_lookup {K : PySem.W.Frag} {L Hc} {f : Str} {x : PV} : ∀ {fs : List (Str × PV)} {vs : List (Str × V)}, RF K L Hc fs vs → fs.lookup f = some x → ∃ v, vs.lookup f = some v ∧ RV K L Hc x v
  | [], _, _, h => by simp at h
  | (g, y) :: fs, _, ⟨v, r, e, h1, h2⟩, h => by
    subst e
    rw [List.lookup_cons] at h ⊢
    by_cases q : (f == g) = true
    · rw [q] at h ⊢
      cases h
      exact ⟨v, rfl, h1⟩
    · rw [Bool.not_eq_true] at q
      rw [q] at h ⊢
      exact rf_lookup h2 h
def tFld (K : PySem.W.Frag) (a : Addr) (cls : Value) (d : Option Addr) (f : Str) (te : TE) : TE := fun σ H Q => ∃ C, XfC K C ∧ PySem.W.findIn K (.ref C) f = some none ∧ tXf a cls d C f te σ H Q
theorem fe_fld {i : Nat} {x f : Str} {px pos : Pos} {cs : List Str} (hz : Zc cls d oe) (hf : ∃ vs, oe.data = .fields vs) (hp : PinOk X.mg G a cls d) (hx : PE (X.suite a ((a, oe) :: pn)) (.Name x px) (tVar i)) (hcs : ∀ c ∈ cs, ∃ C fI flds, XCls X.K X.mg c C fI flds ∧ f ∈ flds)
    (hb : attributeBase (.Name x px) f X.env (eval (.Name x px) X.env) = eval (.Name x px) X.env := by rfl) : FE (X.suite a ((a, oe) :: pn)) G E (.Attribute (.Name x px) f pos) (tFld X.K a cls d f (tVar i)) (mFld i cs f) :=
  ⟨⟨fun pins s σ H Q I ⟨C, h1, h2, h3⟩ => (pe_xf h1 h2 hz hf hx hb).run pins s σ H Q I h3⟩, fun w ρ σ Q I q => by
  unfold mFld at q
  split at q
  · rename_i c fs hi
    obtain ⟨hc, q⟩ := good_if q
    obtain ⟨a', d', P, vs, g1, g2, g3, g4, g5⟩ := I.pin i c fs hi
    obtain ⟨d0, P0, e1, e2⟩ := hp
    rw [e1] at g1
    cases g1
    obtain ⟨ed, C, ec, em⟩ := e2 c g3
    obtain ⟨C', fI, flds, T, hf'⟩ := hcs c (List.contains_iff_mem.mp hc)
    have : C' = C := by have := T.gC; rw [em] at this; cases this; rfl
    subst this
    split at q
    · rename_i y hy
      obtain ⟨v, l1, l2⟩ := rf_lookup g5 hy
      exact ⟨C', T.X, T.no f hf', _, g2, rfl, ec, _, vs, v, ed, (cut_some g4).2, l1, q w v rfl (WStep.refl I.ok.sub) I.ok l2⟩
    · exact q.elim
  · exact q.elim⟩
/-- isinstance(e, T) of the exception in hand -/
def mXis (i : Nat) (tbl : List (Str × Bool)) : Rho → Store → Res PV := fun ρ S => match ρ[i]? with
  | some (.pin c _) => match tbl.lookup c with
    | some b => .ok (.bl b) S
    | none => .bad
  | _ => .bad
/-- what isinstance asks of the class at C -/
structure IsC (K : PySem.W.Frag) (C : Addr) : Prop where
  cl : (PySem.W.clsIn K C).isSome = true
  hg : PySem.W.findIn K (.ref C) "__getattribute__" = some (some (.builtin "BaseException.__getattribute__"))
  hk : PySem.W.findIn K (.ref C) "__getattr__" = some none
  hs : PySem.W.subIn K (.ref C) (.type "BaseException") = some true
  ha : PySem.W.findIn K (.ref C) "__class__" = some (some (.builtin "object.__class__"))
  hn : PySem.W.specialIn K (.builtin "object.__class__") "__get__" = some (some (.builtin "getset_descriptor.__get__"))
  ht : PySem.W.takesIn K (.builtin "object.__class__") = some true
  hm : PySem.W.mroIn K C (.type "object") = some true
theorem XCls.is {K mg c C fI flds} (T : XCls K mg c C fI flds) : IsC K C := ⟨T.cl, T.X.ga, T.X.gg, T.T.exC, T.ha, T.hn, T.ht, T.hm⟩
def rXis (K : PySem.W.Frag) (a : Addr) (cls : Value) (d : Option Addr) : List V → Hp → VK → Prop := fun xs H Q => ∃ (C dd : Addr) (fs : List (Str × V)) (c : V) (cv : Value) (b : Bool), IsC K C ∧ cls = .ref C ∧ d = some dd ∧ H dd = some (.xd fs) ∧ xs = [.ref a, c] ∧ ClsV c cv ∧ PySem.W.kitOne K (.ref C) cv = some b ∧ Q (.bl b) H
def rXisT (K : PySem.W.Frag) (a : Addr) (cls : Value) (d : Option Addr) : List V → Hp → VK → Prop := fun xs H Q => ∃ (C dd tp : Addr) (fs : List (Str × V)) (cs : List V) (us : List Value) (b : Bool), IsC K C ∧ cls = .ref C ∧ d = some dd ∧ H dd = some (.xd fs) ∧ xs = [.ref a, .ref tp] ∧ H tp = some (.tup cs) ∧ Paired ClsV cs us ∧ PySem.W.kitAny K (.ref C) us = some b ∧ Q (.bl b) H
theorem inst_pin {pins : List (Addr × Obj)} {σ : L2.St} {H : Hp} {s : Shared} {dd C : Addr} {fs : List (Str × V)} (I : Inv (X.suite a ((a, oe) :: pn)) pins σ H s) (hz : Zc (.ref C) (some dd) oe) (hf : ∃ vs, oe.data = .fields vs) (hd : H dd = some (.xd fs)) : ∃ od, PySem.W.InstAt s.heap a oe C (some od) := by
  obtain ⟨ha, _⟩ := I.pin (a, oe) (List.mem_append_left _ List.mem_cons_self)
  obtain ⟨vs, hdt⟩ := hf
  have hx : ObjOk X.prog X.w H s.heap dd (.xd fs) := I.hok dd _ hd
  obtain ⟨mA, hns, hr⟩ := hx
  obtain ⟨od, ho, hl⟩ := lookIn_ns hns
  exact ⟨od, ha, hz.1, by unfold PySem.W.notCls; rw [hdt] <;> rfl, by rw [hz.2]; exact ho⟩
theorem call_xis (hz : Zc cls d oe) (hf : ∃ vs, oe.data = .fields vs) : CallR (X.suite a ((a, oe) :: pn)) (.builtin "isinstance") (rXis X.K a cls d) := by
  intro pins s σ H xs us Q I r h
  obtain ⟨C, dd, fs, c, cv, b, T, rfl, rfl, hd, rfl, kc, e, q⟩ := h
  obtain ⟨u1, u2, rfl, r1, r2⟩ := vals2 r
  have e2 := kc.eq r2
  subst e2
  cases (show u1 = Value.ref a from r1)
  obtain ⟨od, J⟩ := inst_pin I hz hf hd
  exact PySem.W.kia_one (PySem.W.kitx_exc T.cl T.hg T.hk T.hs T.ha T.hn T.ht T.hm) I.kIn J e (fun z => nomatch z) fun tk => ⟨.bl b, H, I.tok tk, rfl, q⟩
theorem call_xisT (hz : Zc cls d oe) (hf : ∃ vs, oe.data = .fields vs) : CallR (X.suite a ((a, oe) :: pn)) (.builtin "isinstance") (rXisT X.K a cls d) := by
  intro pins s σ H xs us Q I r h
  obtain ⟨C, dd, tp, fs, cs, ws, b, T, rfl, rfl, hd, rfl, hT, kc, e, q⟩ := h
  obtain ⟨u1, u2, rfl, r1, r2⟩ := vals2 r
  cases (show u1 = Value.ref a from r1)
  cases (show u2 = Value.ref tp from r2)
  obtain ⟨od, J⟩ := inst_pin I hz hf hd
  obtain ⟨_, its, rv, o, h1, h2, n, h3⟩ := (show ObjOk X.prog X.w H s.heap tp (.tup cs) from I.hok tp _ hT)
  have e3 := ClsV.all kc rv
  subst e3
  obtain ⟨oc, od', dt, sl⟩ := o
  simp only at h2 h3
  subst h2 h3
  exact PySem.W.kia_tup (PySem.W.kitx_exc T.cl T.hg T.hk T.hs T.ha T.hn T.ht T.hm) I.kIn J h1 e (fun z => nomatch z) fun tk => ⟨.bl b, H, I.tok tk, rfl, q⟩
/-- what a class's name in the text stands for -/
structure ClsN (X : Cx) (Tn : Str) (c : V) (cv : Value) : Prop where
  k : ClsV c cv
  pe : ∀ pT, PE X (.Name Tn pT) (tC c)
theorem clsN_own {Tn : Str} {C : Addr} (hm : X.mg Tn = some (.ref C)) (hg : Gl X Tn := by rfl) (hdb : (Tn == ("__debug__" : Str)) = false := by decide) : ClsN X Tn (.ref C) (.ref C) := ⟨.own C, fun pT => pe_glob hg hm rfl hdb⟩
theorem clsN_ty {Tn : Str} {T : String} (hm : X.mg Tn = none) (hb : bootBuiltins Tn = some (.type T) := by decide +kernel) (hg : Gl X Tn := by rfl) (hn : Tn ≠ "__name__" := by decide) (hdb : (Tn == ("__debug__" : Str)) = false := by decide) : ClsN X Tn (.ty T) (.type T) := ⟨.ty T, fun pT => pe_bltn hg hm hb rfl hn hdb⟩
theorem sim_xis {i : Nat} {tbl : List (Str × Bool)} {c : V} {cv : Value} (hp : PinOk X.mg G a cls d) (k : ClsV c cv) (ht : ∀ p ∈ tbl, ∃ C, X.mg p.1 = some (.ref C) ∧ IsC X.K C ∧ PySem.W.kitOne X.K (.ref C) cv = some p.2) : ESim X.K X.mg G E (tCB (rXis X.K a cls d) (tCons (tVar i) (tCons (tC c) tNil))) (mXis i tbl) := fun w ρ σ Q I q => by
  unfold mXis at q
  split at q
  · rename_i c' fs hi
    split at q
    · rename_i b hl
      obtain ⟨a', d', P, vs, g1, g2, g3, g4, g5⟩ := I.pin i c' fs hi
      obtain ⟨d0, P0, e1, e2⟩ := hp
      rw [e1] at g1
      cases g1
      obtain ⟨ed, C, ec, em⟩ := e2 c' g3
      obtain ⟨C', m1, m2, m3⟩ := ht _ (lookup_mem hl)
      have : C' = C := by have m1 : X.mg c' = _ := m1; rw [em] at m1; cases m1; rfl
      subst this
      exact ⟨_, g2, C', _, vs, c, cv, b, m2, ec, ed, (cut_some g4).2, rfl, k, m3, q w (.bl b) rfl (WStep.refl I.ok.sub) I.ok rfl⟩
    · exact q.elim
  · exact q.elim
theorem fe_xis {i : Nat} {x Tn : Str} {p px pT pos : Pos} {tbl : List (Str × Bool)} {c : V} {cv : Value} (hz : Zc cls d oe) (hf : ∃ vs, oe.data = .fields vs) (hp : PinOk X.mg G a cls d) (hx : PE (X.suite a ((a, oe) :: pn)) (.Name x px) (tVar i)) (hm : X.mg "isinstance" = none) (hT : ClsN (X.suite a ((a, oe) :: pn)) Tn c cv)
    (ht : ∀ p ∈ tbl, ∃ C, X.mg p.1 = some (.ref C) ∧ IsC X.K C ∧ PySem.W.kitOne X.K (.ref C) cv = some p.2) (hg : Gl (X.suite a ((a, oe) :: pn)) "isinstance" := by rfl)
    (hs : starEach [.Name x px, .Name Tn pT] X.env = (false, eval (.Name x px) X.env) :: starEach [.Name Tn pT] X.env := by rfl) (hpl : (backTo pos (starEach [.Name Tn pT] X.env)).any (·.1) = false := by rfl) (hs2 : starEach [.Name Tn pT] X.env = (false, eval (.Name Tn pT) X.env) :: starEach [] X.env := by rfl) :
    FE (X.suite a ((a, oe) :: pn)) G E (.Call (.Name "isinstance" p) [.Name x px, .Name Tn pT] [] pos) (tCB (rXis X.K a cls d) (tCons (tVar i) (tCons (tC c) tNil))) (mXis i tbl) :=
  ⟨pe_callB (call_xis hz hf) hg hm (by decide +kernel) (pa_cons hx (pa_cons (hT.pe pT) pa_nil hs2) hs) (by decide) (by decide) hs hpl, sim_xis hp hT.k ht⟩
/-- a tuple of classes -/
def tCs : List V → TA
  | [] => tNil
  | c :: cs => tCons (tC c) (tCs cs)
theorem tCs_ok {σ : L2.St} : ∀ {cs : List V} {H : Hp} {Q : List V → Hp → Prop}, Q cs H → tCs cs σ H Q
  | [], _, _, h => h
  | c :: cs, H, Q, h => tCs_ok (cs := cs) (Q := fun vs H2 => Q (c :: vs) H2) h
/-- the classes of a tuple in the text -/
inductive ClsNs (X : Cx) : List Expr → List V → List Value → Prop
  | nil : ClsNs X [] [] []
  | cons {Tn : Str} {pT : Pos} {es : List Expr} {c : V} {cv : Value} {cs : List V} {us : List Value} (h : ClsN X Tn c cv) (r : ClsNs X es cs us) (hs : starEach (.Name Tn pT :: es) X.env = (false, eval (.Name Tn pT) X.env) :: starEach es X.env := by rfl) : ClsNs X (.Name Tn pT :: es) (c :: cs) (cv :: us)
theorem ClsNs.pa {es cs us} (h : ClsNs X es cs us) : PA X es (tCs cs) := by
  induction h with
  | nil => exact pa_nil
  | cons h r hs ih => exact pa_cons (h.pe _) ih hs
theorem ClsNs.pr {es cs us} (h : ClsNs X es cs us) : Paired ClsV cs us := by
  induction h with
  | nil => exact .nil
  | cons h r hs ih => exact .cons h.k ih
theorem ClsNs.len {es cs us} (h : ClsNs X es cs us) : cs.length = es.length := by
  induction h with
  | nil => rfl
  | cons h r hs ih => simp [ih]
theorem sim_xisT {i : Nat} {tbl : List (Str × Bool)} {cs : List V} {us : List Value} (hp : PinOk X.mg G a cls d) (k : Paired ClsV cs us) (hl : cs.length ≤ sizeM) (ht : ∀ p ∈ tbl, ∃ C, X.mg p.1 = some (.ref C) ∧ IsC X.K C ∧ PySem.W.kitAny X.K (.ref C) us = some p.2) :
    ESim X.K X.mg G E (tCB (rXisT X.K a cls d) (tCons (tVar i) (tCons (tTup (tCs cs)) tNil))) (mXis i tbl) := fun w ρ σ Q I q => by
  unfold mXis at q
  split at q
  · rename_i c' fs hi
    split at q
    · rename_i b hlk
      obtain ⟨a', d', P, vs, g1, g2, g3, g4, g5⟩ := I.pin i c' fs hi
      obtain ⟨d0, P0, e1, e2⟩ := hp
      rw [e1] at g1
      cases g1
      obtain ⟨ed, C, ec, em⟩ := e2 c' g3
      obtain ⟨C', m1, m2, m3⟩ := ht _ (lookup_mem hlk)
      have : C' = C := by have m1 : X.mg c' = _ := m1; rw [em] at m1; cases m1; rfl
      subst this
      refine ⟨_, g2, tCs_ok ⟨sizeM_le hl, fun p hpn => ?_⟩⟩
      have hd := (cut_some g4).2
      exact ⟨C', _, p, vs, cs, us, b, m2, ec, ed, by rw [upd_ne (ne_of_none hd hpn)]; exact hd, rfl, upd_same, k, m3, q (w.put p (.tup cs)) (.bl b) rfl (put_step I.ok hpn) (put_ok I.ok hpn) rfl⟩
    · exact q.elim
  · exact q.elim
theorem fe_xisT {i : Nat} {x : Str} {p px pT pos : Pos} {kk : Nat} {es : List Expr} {tbl : List (Str × Bool)} {cs : List V} {us : List Value} (hz : Zc cls d oe) (hf : ∃ vs, oe.data = .fields vs) (hp : PinOk X.mg G a cls d) (hx : PE (X.suite a ((a, oe) :: pn)) (.Name x px) (tVar i)) (hm : X.mg "isinstance" = none) (hT : ClsNs (X.suite a ((a, oe) :: pn)) es cs us)
    (ht : ∀ p ∈ tbl, ∃ C, X.mg p.1 = some (.ref C) ∧ IsC X.K C ∧ PySem.W.kitAny X.K (.ref C) us = some p.2) (hl : es.length ≤ 1000 := by decide) (hg : Gl (X.suite a ((a, oe) :: pn)) "isinstance" := by rfl)
    (hs : starEach [.Name x px, .Tuple es kk pT] X.env = (false, eval (.Name x px) X.env) :: starEach [.Tuple es kk pT] X.env := by rfl) (hpl : (backTo pos (starEach [.Tuple es kk pT] X.env)).any (·.1) = false := by rfl) (hs2 : starEach [.Tuple es kk pT] X.env = (false, eval (.Tuple es kk pT) X.env) :: starEach [] X.env := by rfl) :
    FE (X.suite a ((a, oe) :: pn)) G E (.Call (.Name "isinstance" p) [.Name x px, .Tuple es kk pT] [] pos) (tCB (rXisT X.K a cls d) (tCons (tVar i) (tCons (tTup (tCs cs)) tNil))) (mXis i tbl) :=
  ⟨pe_callB (call_xisT hz hf) hg hm (by decide +kernel) (pa_cons hx (pa_cons (pe_tup hT.pa) pa_nil hs2) hs) (by decide) (by decide) hs hpl, sim_xisT hp hT.pr (by rw [hT.len]; exact Nat.le_trans hl (by decide)) ht⟩
end
end Mir
set_option maxHeartbeats 4000000
/-! MirY: == and in of data, bits, unpacking, index, pop, extend, constants. -/
namespace Mir
open PySem PySem.Spec PyProof.Rows L2
/-! ### == and in -/
def gEqDeep (neg : Bool) (x y : PV) (S : Store) : Res PV := match toD x, toD y with
  | some d, some e => if (SeqAt.shaped d && SeqAt.shaped e) = true then .ok (.bl (if neg then !PyData.eqv d e else PyData.eqv d e)) S else .bad
  | _, _ => .bad
/-- == of data; two texts are asked as such -/
def gEqD (neg : Bool) : PV → PV → Store → Res PV
  | .str a, .str b, S => .ok (.bl (if neg then !decide (a = b) else decide (a = b))) S
  | x, y, S => gEqDeep neg x y S
abbrev rEqE (K : PySem.W.Frag) : R2 := fun x y H Q => rEq x y H Q ∨ rEqD K x y H Q
abbrev rNeE (K : PySem.W.Frag) : R2 := fun x y H Q => rNe x y H Q ∨ rNeD K x y H Q
section
variable {K : PySem.W.Frag} {mg : Str → Option Value} {E : XK}
theorem r2_eqDeep : R2Sim K mg E (rEqD K) (gEqDeep false) := fun w x y v u Q k rx ry g => by
  unfold gEqDeep at g
  split at g
  · rename_i d e h1 h2
    obtain ⟨c, g⟩ := good_if g
    obtain ⟨c1, c2⟩ := He.ba c
    exact ⟨d, e, toD_dp (fun a o h => (cut_some h).2) h1 rx, toD_dp (fun a o h => (cut_some h).2) h2 ry, c1, c2, g w _ rfl (WStep.refl k.sub) k rfl⟩
  · exact g.elim
theorem r2_neDeep : R2Sim K mg E (rNeD K) (gEqDeep true) := fun w x y v u Q k rx ry g => by
  unfold gEqDeep at g
  split at g
  · rename_i d e h1 h2
    obtain ⟨c, g⟩ := good_if g
    obtain ⟨c1, c2⟩ := He.ba c
    exact ⟨d, e, toD_dp (fun a o h => (cut_some h).2) h1 rx, toD_dp (fun a o h => (cut_some h).2) h2 ry, c1, c2, g w _ rfl (WStep.refl k.sub) k rfl⟩
  · exact g.elim
theorem gEqD_else {neg : Bool} {x y : PV} {S : Store} (h : ¬ ∃ a b, x = .str a ∧ y = .str b) : gEqD neg x y S = gEqDeep neg x y S := by
  cases x <;> cases y <;> first | rfl | exact absurd ⟨_, _, rfl, rfl⟩ h
theorem gEq_str {neg : Bool} {a b : Str} {S : Store} : gEqD neg (.str a) (.str b) S = gEq neg (.str a) (.str b) S := by
  unfold gEq
  simp only [toV, scal, if_pos, V.str.injEq]
  cases neg <;> rfl
theorem r2_eqD : R2Sim K mg E (rEqE K) (gEqD false) := fun w x y v u Q k rx ry g => by
  by_cases h : ∃ a b, x = .str a ∧ y = .str b
  · obtain ⟨a, b, rfl, rfl⟩ := h
    rw [gEq_str] at g
    exact .inl (r2_eq (K := K) (mg := mg) (E := E) w _ _ v u Q k rx ry g)
  · rw [gEqD_else h] at g
    exact .inr (r2_eqDeep (mg := mg) (E := E) w x y v u Q k rx ry g)
theorem r2_neD : R2Sim K mg E (rNeE K) (gEqD true) := fun w x y v u Q k rx ry g => by
  by_cases h : ∃ a b, x = .str a ∧ y = .str b
  · obtain ⟨a, b, rfl, rfl⟩ := h
    rw [gEq_str] at g
    exact .inl (r2_ne (K := K) (mg := mg) (E := E) w _ _ v u Q k rx ry g)
  · rw [gEqD_else h] at g
    exact .inr (r2_neDeep (mg := mg) (E := E) w x y v u Q k rx ry g)
/-- x in y, data of any depth: y a list or a tuple -/
def gInD (neg : Bool) (x y : PV) (S : Store) : Res PV := match toD x, toD y with
  | some d, some (.list ds) => if (SeqAt.shaped d && SeqAt.shaped (.list ds)) = true then .ok (.bl (if neg then !(ds.any fun z => PyData.eqv z d) else ds.any fun z => PyData.eqv z d)) S else .bad
  | some d, some (.tuple ds) => if (SeqAt.shaped d && SeqAt.shaped (.tuple ds)) = true then .ok (.bl (if neg then !(ds.any fun z => PyData.eqv z d) else ds.any fun z => PyData.eqv z d)) S else .bad
  | _, _ => .bad
def rInT (K : PySem.W.Frag) (neg : Bool) : R2 := fun x y H Q => ∃ d ds, Dp K H x d ∧ Dp K H y (.tuple ds) ∧ SeqAt.shaped d = true ∧ SeqAt.shaped (.tuple ds) = true ∧ Q (.bl (if neg then !(ds.any fun z => PyData.eqv z d) else ds.any fun z => PyData.eqv z d)) H
theorem op_inT {X : Cx} (hu : X.A.units + 65 < cLine) : OpR X (compareOp .In) (rInT X.K false) := fun pins s σ H x y v u Q I rx ry ⟨d, ds, hd, he, sd, se, q⟩ => by
  obtain ⟨as, r1⟩ := Dp.reads I d x v hd rx
  obtain ⟨bs, r2⟩ := Dp.reads I (.tuple ds) y u he ry
  exact SeqAt.in_tuple_reads r2 r1 (by have := SeqAt.canLay_of_shaped se; simpa only [PyData.canLay0] using this) (SeqAt.canLay_of_shaped sd) (room_in_shaped sd hu) ⟨.bl _, H, I, rfl, q⟩
abbrev rInA (K : PySem.W.Frag) : R2 := fun x y H Q => rInD K x y H Q ∨ rInT K false x y H Q
theorem op_inA {X : Cx} (hu : X.A.units + 65 < cLine) : OpR X (compareOp .In) (rInA X.K) := (op_inD hu).or (op_inT hu)
theorem r2_inA : R2Sim K mg E (rInA K) (gInD false) := fun w x y v u Q k rx ry g => by
  unfold gInD at g
  split at g
  · rename_i d ds h1 h2
    obtain ⟨c, g⟩ := good_if g
    obtain ⟨c1, c2⟩ := He.ba c
    exact .inl ⟨d, ds, toD_dp (fun a o h => (cut_some h).2) h1 rx, toD_dp (fun a o h => (cut_some h).2) h2 ry, c1, c2, g w _ rfl (WStep.refl k.sub) k rfl⟩
  · rename_i d ds h1 h2
    obtain ⟨c, g⟩ := good_if g
    obtain ⟨c1, c2⟩ := He.ba c
    exact .inr ⟨d, ds, toD_dp (fun a o h => (cut_some h).2) h1 rx, toD_dp (fun a o h => (cut_some h).2) h2 ry, c1, c2, g w _ rfl (WStep.refl k.sub) k rfl⟩
  · exact g.elim
/-! ### is -/
def gIsA : PV → PV → Store → Res PV
  | .bl a, .bl b, S => .ok (.bl (decide (a = b))) S
  | x, y, S => gIs false x y S
abbrev rIsA : R2 := fun x y H Q => (y = .non ∧ Q (.bl (decide (x = .non))) H) ∨ (∃ a b : Bool, x = .bl a ∧ y = .bl b ∧ Q (.bl (decide (a = b))) H)
theorem op_isA {X : Cx} : OpR X (compareOp .Is) rIsA := op_isN.or op_is_bl
theorem r2_isA : R2Sim K mg E rIsA gIsA := fun w x y v u Q k rx ry g => by
  by_cases h : ∃ a b, x = .bl a ∧ y = .bl b
  · obtain ⟨a, b, rfl, rfl⟩ := h
    exact .inr ⟨a, b, rx, ry, g w _ rfl (WStep.refl k.sub) k rfl⟩
  · refine .inl (r2_is (mg := mg) (E := E) w x y v u Q k rx ry ?_)
    have e : gIsA x y w.S = gIs false x y w.S := by
      cases x <;> cases y <;> first | rfl | exact absurd ⟨_, _, rfl, rfl⟩ h
    rw [← e]
    exact g
/-! ### bits -/
def gBit (f : Int → Int → Int) : PV → PV → Store → Res PV
  | .int i, .int j, S => .ok (.int (f i j)) S
  | _, _, _ => .bad
theorem r2_bit {f : Int → Int → Int} : R2Sim K mg E (rI0 fun i j => .int (f i j)) (gBit f) := fun w x y v u Q k rx ry g => by
  cases x <;> first | exact g.elim | skip
  cases y <;> first | exact g.elim | skip
  exact ⟨_, _, rx, ry, g w _ rfl (WStep.refl k.sub) k rfl⟩
def gShr : PV → PV → Store → Res PV
  | .int i, .int j, S => if 0 ≤ j then .ok (.int (i / 2 ^ j.toNat)) S else .bad
  | _, _, _ => .bad
theorem r2_shr : R2Sim K mg E (rI (fun _ j => 0 ≤ j) fun i j => .int (i / 2 ^ j.toNat)) gShr := fun w x y v u Q k rx ry g => by
  cases x <;> first | exact g.elim | skip
  cases y <;> first | exact g.elim | skip
  obtain ⟨c, g⟩ := good_if g
  exact ⟨_, _, rx, ry, c, g w _ rfl (WStep.refl k.sub) k rfl⟩
end
/-! ### constants of the modules -/
mutual
def pvB (K : PySem.W.Frag) : PV → Value → Bool
  | .non, .none => true
  | .bl b, .bool c => b == c
  | .int i, .int j _ => decide (i = j)
  | .str x, .str y _ => decide (x = y)
  | .tup xs, .ref a => (match K.lookup a with
    | some ⟨.type c, _, .seq its _, _⟩ => decide (c = "tuple") && (decide (its.size ≤ sizeLine) && pvBs K xs its.toList)
    | _ => false)
  | .fn x, .ref a => decide (a = He.ga K x)
  | _, _ => false
def pvBs (K : PySem.W.Frag) : List PV → List Value → Bool
  | [], [] => true
  | x :: xs, u :: us => pvB K x u && pvBs K xs us
  | _, _ => false
end
mutual
theorem pvB_ok {K : PySem.W.Frag} : ∀ {p : PV} {u : Value}, pvB K p u = true → ∃ v, RelV v u ∧ ∀ L Hc, RV K L Hc p v
  | .non, u, h => by
    cases u <;> simp only [pvB] at h <;> first | (cases h; done) | exact ⟨.non, rfl, fun _ _ => rfl⟩
  | .bl b, u, h => by
    cases u with
    | bool c =>
      simp only [pvB] at h
      rw [eq_of_beq h]
      exact ⟨.bl c, rfl, fun _ _ => rfl⟩
    | _ => simp only [pvB] at h; cases h
  | .int i, u, h => by
    cases u with
    | int c t =>
      simp only [pvB] at h
      rw [of_decide_eq_true h]
      exact ⟨.int c, ⟨t, rfl⟩, fun _ _ => rfl⟩
    | _ => simp only [pvB] at h; cases h
  | .str i, u, h => by
    cases u with
    | str c t =>
      simp only [pvB] at h
      rw [of_decide_eq_true h]
      exact ⟨.str c, ⟨t, rfl⟩, fun _ _ => rfl⟩
    | _ => simp only [pvB] at h; cases h
  | .tup xs, u, h => by
    cases u with
    | ref a =>
      simp only [pvB] at h
      cases q : K.lookup a with
      | none => rw [q] at h; cases h
      | some o =>
        obtain ⟨oc, od, dt, osl⟩ := o
        rw [q] at h
        cases oc with
        | type c =>
          cases dt with
          | seq its n =>
            obtain ⟨h1, h2⟩ := He.ba (show (decide (c = "tuple") && (decide (its.size ≤ sizeLine) && pvBs K xs its.toList)) = true from h)
            obtain ⟨h3, h4⟩ := He.ba h2
            obtain ⟨vs, e1, e2⟩ := pvBs_ok h4
            exact ⟨.ref a, rfl, fun L Hc => ⟨a, vs, rfl, .inr ⟨_, its, n, q, congrArg Value.type (of_decide_eq_true h1), rfl, of_decide_eq_true h3, e1⟩, e2 L Hc⟩⟩
          | _ => cases h
        | _ => cases dt <;> cases h
    | _ => simp only [pvB] at h; cases h
  | .lst _, u, h => by cases u <;> simp only [pvB] at h <;> cases h
  | .cl _, u, h => by cases u <;> simp only [pvB] at h <;> cases h
  | .obj _, u, h => by cases u <;> simp only [pvB] at h <;> cases h
  | .dk _ _, u, h => by cases u <;> simp only [pvB] at h <;> cases h
  | .ins _ _ _, u, h => by cases u <;> simp only [pvB] at h <;> cases h
  | .fn x, u, h => by
    cases u with
    | ref a =>
      simp only [pvB] at h
      rw [of_decide_eq_true h]
      exact ⟨.ref (He.ga K x), rfl, fun _ _ => rfl⟩
    | _ => simp only [pvB] at h; cases h
theorem pvBs_ok {K : PySem.W.Frag} : ∀ {xs : List PV} {us : List Value}, pvBs K xs us = true → ∃ vs, Vals vs us ∧ ∀ L Hc, RVs K L Hc xs vs
  | [], us, h => by
    cases us with
    | nil => exact ⟨[], .nil, fun _ _ => rfl⟩
    | cons u us => simp only [pvBs] at h; cases h
  | x :: xs, us, h => by
    cases us with
    | nil => simp only [pvBs] at h; cases h
    | cons u us =>
      simp only [pvBs] at h
      obtain ⟨h1, h2⟩ := He.ba h
      obtain ⟨v, e1, e2⟩ := pvB_ok h1
      obtain ⟨vs, e3, e4⟩ := pvBs_ok h2
      exact ⟨v :: vs, .cons e1 e3, fun L Hc => ⟨v, vs, rfl, e2 L Hc, e4 L Hc⟩⟩
end
/-- the module's name x stands for p -/
def cstB (K : PySem.W.Frag) (x : Str) (p : PV) : Bool := match PySem.W.nsIn K mainGlobals x with
  | some (some u) => pvB K p u
  | _ => false
theorem cst_ok {K : PySem.W.Frag} {h : Heap} {mg : Str → Option Value} (X : K.In h) (G : h.Ns mainGlobals mg) {x : Str} {p : PV} (c : cstB K x p = true) : ∃ v u, mg x = some u ∧ RelV v u ∧ ∀ L Hc, RV K L Hc p v := by
  unfold cstB at c
  cases e : PySem.W.nsIn K mainGlobals x with
  | none => rw [e] at c; cases c
  | some o =>
    rw [e] at c
    cases o with
    | none => cases c
    | some u =>
      obtain ⟨v, h1, h2⟩ := pvB_ok (K := K) (p := p) (u := u) c
      exact ⟨v, u, PySem.W.mg_of X G e, h1, h2⟩
/-! ### a module's dict with text keys -/
/-- the dict at a, that the module's name x stands for -/
structure CDict (K : PySem.W.Frag) (w : World) (mg : Str → Option Value) (x : Str) (a : Addr) (tbl : List (Str × PV)) : Prop where
  g : mg x = some (.ref a)
  kd : ∃ es n, KDict K w a es n
  no : ∀ z, tbl.lookup z = none → PySem.W.nsIn K a z = some none
  yes : ∀ z p, tbl.lookup z = some p → ∃ v u, PySem.W.nsIn K a z = some (some u) ∧ RelV v u ∧ ∀ L Hc, RV K L Hc p v
def mKIn (neg : Bool) (tbl : List (Str × PV)) (f : Rho → Store → Res PV) : Rho → Store → Res PV := fun ρ S => (f ρ S).bind fun x S1 => match x with
  | .str z => .ok (.bl (if neg then !(tbl.lookup z).isSome else (tbl.lookup z).isSome)) S1
  | _ => .bad
def mKGet (tbl : List (Str × PV)) (f : Rho → Store → Res PV) : Rho → Store → Res PV := fun ρ S => (f ρ S).bind fun x S1 => match x with
  | .str z => (match tbl.lookup z with
    | some p => .ok p S1
    | none => .bad)
  | _ => .bad
def rKNot (K : PySem.W.Frag) (d : Addr) : R2 := fun x y H Q => ∃ (z : Str) (r : Option Value), x = .str z ∧ y = .ref d ∧ PySem.W.nsIn K d z = some r ∧ Q (.bl (!r.isSome)) H
section
variable {X : Cx} {G : Wd} {E : EK} (K : PySem.W.Frag) (W : World)
theorem kd_notIn {d : Addr} (h : ∃ es n, KDict X.K X.w d es n) : OpR X (compareOp .NotIn) (rKNot X.K d) := by
  obtain ⟨es, n, D⟩ := h
  exact op_notIn_kd D
theorem sim_kget {K : PySem.W.Frag} {W : World} {mg : Str → Option Value} {x : Str} {a : Addr} {tbl : List (Str × PV)} {te f} (D : CDict K W mg x a tbl) (he : ESim K mg G E te f) : ESim K mg G E (tOp (rIxD K W) (tC (.ref a)) te) (mKGet tbl f) := fun w ρ σ Q I q => by
  refine he w ρ σ _ I (Good.imp (Good.bind1 q) (fun y S1 q1 => ?_) fun _ _ _ h => h)
  intro w1 v e1 s1 k1 r1
  subst e1
  cases y <;> first | exact q1.elim | skip
  rename_i z
  have q1 : Good (match tbl.lookup z with | some p => Res.ok p w1.S | none => Res.bad) (PostV K w Q) (ExP K mg (E σ) w) := q1
  split at q1
  · rename_i p hl
    obtain ⟨v0, u, g1, g2, g3⟩ := D.yes z p hl
    obtain ⟨es, n, kd⟩ := D.kd
    exact ⟨a, z, v0, rfl, r1, ⟨es, n, u, kd.at_, kd.lit, g1, g2⟩, q1 w1 v0 rfl s1 k1 (g3 _ _)⟩
  · exact q1.elim
theorem fe_kget {mg : Str → Option Value} {x : Str} {a : Addr} {tbl : List (Str × PV)} {e : Expr} {te f} {px pos : Pos} (D : CDict K W mg x a tbl) (he : FE X G E e te f) (hK : X.K = K := by rfl) (hW : X.w = W := by rfl) (hM : X.mg = mg := by rfl) (hg : Gl X x := by rfl) (hd : (x == ("__debug__" : Str)) = false := by decide) (hp : PlainIx e := by exact fun _ _ => rfl) :
    FE X G E (.Subscript (.Name x px) e pos) (tOp (rIxD K W) (tC (.ref a)) te) (mKGet tbl f) := by
  subst hK hW hM
  exact ⟨pe_ix ix_kdict (pe_glob (v := .ref a) hg D.g rfl hd) he.pe hp, sim_kget D he.sim⟩
theorem sim_knot {K : PySem.W.Frag} {W : World} {mg : Str → Option Value} {x : Str} {a : Addr} {tbl : List (Str × PV)} {te f} (D : CDict K W mg x a tbl) (he : ESim K mg G E te f) : ESim K mg G E (tOp (rKNot K a) te (tC (.ref a))) (mKIn true tbl f) := fun w ρ σ Q I q => by
  refine he w ρ σ _ I (Good.imp (Good.bind1 q) (fun y S1 q1 => ?_) fun _ _ _ h => h)
  intro w1 v e1 s1 k1 r1
  subst e1
  cases y <;> first | exact q1.elim | skip
  rename_i z
  have q1 : PostV K w Q (.bl (!(tbl.lookup z).isSome)) w1.S := q1
  cases hl : tbl.lookup z with
  | none =>
    rw [hl] at q1
    exact ⟨z, none, r1, rfl, D.no z hl, q1 w1 _ rfl s1 k1 rfl⟩
  | some p =>
    rw [hl] at q1
    obtain ⟨v0, u, g1, g2, g3⟩ := D.yes z p hl
    exact ⟨z, some u, r1, rfl, g1, q1 w1 _ rfl s1 k1 rfl⟩
theorem fe_knot {mg : Str → Option Value} {x : Str} {a : Addr} {tbl : List (Str × PV)} {e : Expr} {te f} {px pos : Pos} (D : CDict K W mg x a tbl) (he : FE X G E e te f) (hK : X.K = K := by rfl) (hW : X.w = W := by rfl) (hM : X.mg = mg := by rfl) (hg : Gl X x := by rfl) (hd : (x == ("__debug__" : Str)) = false := by decide) (hb : behindInMarks .NotIn (.Name x px) = false := by first | exact nobehind _ (by decide) (by decide) | rfl) :
    FE X G E (.Compare e [.NotIn] [.Name x px] pos) (tOp (rKNot K a) te (tC (.ref a))) (mKIn true tbl f) := by
  subst hK hW hM
  exact ⟨pe_cmpR (kd_notIn D.kd) he.pe (pe_glob (v := .ref a) hg D.g rfl hd) hb, sim_knot D he.sim⟩
theorem ft_knot {mg : Str → Option Value} {x : Str} {a : Addr} {tbl : List (Str × PV)} {e : Expr} {te f} {px pos : Pos} (D : CDict K W mg x a tbl) (he : FE X G E e te f) (hK : X.K = K := by rfl) (hW : X.w = W := by rfl) (hM : X.mg = mg := by rfl) (hg : Gl X x := by rfl) (hd : (x == ("__debug__" : Str)) = false := by decide) (hb : behindInMarks .NotIn (.Name x px) = false := by first | exact nobehind _ (by decide) (by decide) | rfl) :
    FT X G E (.Compare e [.NotIn] [.Name x px] pos) (tTest (tOp (rKNot K a) te (tC (.ref a)))) (mB (mKIn true tbl f)) := by
  subst hK hW hM
  exact ⟨pt_cmpR (kd_notIn D.kd) he.pe (pe_glob (v := .ref a) hg D.g rfl hd) hb, sim_test (sim_knot D he.sim)⟩
end
/-- the head's facts of such a dict: its values, and that other keys are not in it -/
def dictB (K : PySem.W.Frag) (x : Str) (tbl : List (Str × PV)) : Bool := He.eqO (PySem.W.nsIn K mainGlobals x) (some (some (.ref (He.ga K x)))) && (tbl.all fun q => match PySem.W.nsIn K (He.ga K x) q.1 with
  | some (some u) => pvB K q.2 u
  | _ => false)

/-! ### unpacking of a tuple or a list -/
def gUn (n : Nat) (g : List PV → Rho → Store → Res Rho) : PV → Rho → Store → Res Rho
  | .tup xs, ρ, S => if xs.length = n then g xs ρ S else .bad
  | .lst xs, ρ, S => if xs.length = n then g xs ρ S else .bad
  | _, _, _ => .bad
def gUnR (K : PySem.W.Frag) (n : Nat) (t : TGs) : TG := fun v σ H Q => L2.gTup K n t v σ H Q ∨ L2.gLst K n t v σ H Q
theorem fg_un {X : Cx} {G : Wd} {E : XK} {es k t pos f} {n : Nat} (h : FGs X G E es t f) (p1 : PG X (.Tuple es k pos) (L2.gTup X.K n t)) (p2 : PG X (.Tuple es k pos) (L2.gLst X.K n t)) : FG X G E (.Tuple es k pos) (gUnR X.K n t) (gUn n f) :=
  ⟨⟨fun pins s σ H v u Q I r q => q.elim (p1.run pins s σ H v u Q I r) (p2.run pins s σ H v u Q I r)⟩, fun w ρ σ x v Q I r q => by
  cases x with
  | tup xs =>
    obtain ⟨a, vs, rfl, r1, r2⟩ := r
    obtain ⟨hn, q⟩ := good_if q
    exact .inl ⟨a, vs, rfl, hc_sqT r1, r2.len.trans hn, h.sim w ρ σ xs vs Q I r2 q⟩
  | lst xs =>
    obtain ⟨a, vs, rfl, r1, r2⟩ := r
    obtain ⟨hn, q⟩ := good_if q
    exact .inr ⟨a, vs, rfl, .inl (.inl (hc_lst r1)), r2.len.trans hn, h.sim w ρ σ xs vs Q I r2 q⟩
  | _ => exact q.elim⟩
/-! ### xs.index(y) -/
def idxOf (us : List V) (u : V) : Option Nat := us.findIdx? fun z => eqV z u
def gIndex : PV → List PV → Store → Res PV
  | .lst xs, [y], S => match xs.mapM toV, toV y with
    | some us, some u => match idxOf us u with
      | some j => .ok (.int j) S
      | none => .bad
    | _, _ => .bad
  | _, _, _ => .bad
def mIndex (f : Rho → Store → Res PV) (fa : Rho → Store → Res (List PV)) : Rho → Store → Res PV := fun ρ S => (f ρ S).bind fun x S1 => match x with
  | .lst xs => (fa ρ S1).bind fun ys S2 => gIndex (.lst xs) ys S2
  | _ => .bad
theorem idxOf_ok {u : V} : ∀ {us : List V} {j : Nat}, idxOf us u = some j → ∃ z, us[j]? = some z ∧ eqV z u = true ∧ ∀ (m : Nat) z', m < j → us[m]? = some z' → eqV z' u = false := fun {us j} h => by
  unfold idxOf at h
  obtain ⟨hj, h1, h2⟩ := List.findIdx?_eq_some_iff_getElem.mp h
  refine ⟨us[j], List.getElem?_eq_getElem hj, h1, fun m z' hm e => ?_⟩
  obtain ⟨hm2, rfl⟩ := List.getElem?_eq_some_iff.mp e
  simpa using h2 m hm
theorem sim_index {K : PySem.W.Frag} {mg : Str → Option Value} {G : Wd} {E : EK} {te ta f fa} (he : ESim K mg G E te f) (ha : ASim K mg G E ta fa) : ESim K mg G E (tBM K "list" (rIndex K) te ta) (mIndex f fa) := fun w ρ σ Q I q => by
  refine he w ρ σ _ I (Good.imp (Good.bind1 q) (fun y S1 q1 => ?_) fun _ _ _ h => h)
  intro w1 v e1 s1 k1 r1
  subst e1
  cases y <;> first | exact q1.elim | skip
  rename_i xs
  obtain ⟨a, vs, rfl, g1, g2⟩ := r1
  have I1 := I.step s1 k1
  refine ⟨.inl ⟨rfl, vs, .inl (.inl (hc_lst g1))⟩, ha w1 ρ σ _ I1 (Good.imp (Good.bind1 q1) (fun ys S2 q2 => ?_) fun _ _ _ h => h.step s1 I.ok k1)⟩
  intro w2 us e2 s2 k2 r2
  subst e2
  match ys, q2, r2 with
  | [y], q2, r2 =>
    obtain ⟨v, rfl, rv⟩ := vs1 r2
    have q2 : Good (match xs.mapM toV, toV y with
      | some us, some u => (match idxOf us u with
        | some j => Res.ok (PV.int j) w2.S
        | none => Res.bad)
      | _, _ => Res.bad) (PostV K w Q) (ExP K mg (E σ) w) := q2
    split at q2
    · rename_i us u h1 h2
      split at q2
      · rename_i j hj
        obtain ⟨z, z1, z2, z3⟩ := idxOf_ok hj
        have e3 := toVs_rv h1 (g2.mono s2.pre (s2.ext k1.sub))
        have e4 := toV_rv h2 rv
        subst e3 e4
        exact ⟨a, _, _, j, z, rfl, rfl, .inl (.inl (hc_lst (s2.ext k1.sub _ _ g1))), toV_flat h2, toVs_flat h1, z1, z2, z3, q2 w2 _ rfl (s1.tr s2 I.ok k1) k2 rfl⟩
      · exact q2.elim
    · exact q2.elim
  | [], q2, _ => exact q2.elim
  | _ :: _ :: _, q2, _ => exact q2.elim
section
variable {X : Cx} {G : Wd} {E : EK} (K : PySem.W.Frag)
theorem fe_index {o e : Expr} {to f ta fa} {ap cp : Pos} (ho : FE X G E o to f) (ha : FA X G E [e] ta fa) (hK : X.K = K := by rfl)
    (hbase : attributeBase o "index" X.env (eval o X.env) = eval o X.env := by rfl)
    (hfew : ((backTo cp (starEach [e] X.env)).all (fun x => !x.1) && (backToKw cp (keywordEach [] X.env)).all (fun x => x.1.isSome) && decide ([e].length + ([] : List Keyword).length + (if ([] : List Keyword).isEmpty then 0 else 1) < 30)) = true := by rfl)
    (hline : (ap.endLine == cp.line) = true := by rfl) (hs : starEach [e] X.env = (false, eval e X.env) :: starEach [] X.env := by rfl) :
    FE X G E (.Call (.Attribute o "index" ap) [e] [] cp) (tBM K "list" (rIndex K) to ta) (mIndex f fa) := by
  subst hK
  exact ⟨pe_bm PySem.F.plainAttrs_list PySem.F.slot_list_index PySem.F.type_list_index mt_index ho.pe ha.pe hbase hfew hline hs (by rfl), sim_index ho.sim ha.sim⟩
end
end Mir
set_option maxHeartbeats 4000000
/-! MirZ: pop, extend, a new list out of a tuple, calls without arguments, isinstance of several types, two except clauses. -/
namespace Mir
open PySem PySem.Spec PyProof.Rows L2
section
variable {X : Cx} {G : Wd} {E : EK}
/-- y = x.pop(), x a list of ours -/
def mPop (i j : Nat) : Rho → Store → Res Out := fun ρ S => match ρ[i]? with
  | some (.own (.lst xs)) => (match xs[xs.length - 1]? with
    | some y => .ok (.nx ((ρ.set i (.own (.lst xs.dropLast))).set j (.val y))) S
    | none => .bad)
  | _ => .bad
theorem RVs.dropLast {K L Hc} {xs : List PV} {vs : List V} (h : RVs K L Hc xs vs) : RVs K L Hc xs.dropLast vs.dropLast := by
  rw [List.dropLast_eq_take, List.dropLast_eq_take, h.len]
  exact h.take _
theorem sim_pop {K : PySem.W.Frag} {mg : Str → Option Value} {i j : Nat} : SSim K mg G E (tAsg (tBM0 K "list" rPop (tVar i)) (gName j)) (mPop i j) := fun w ρ σ D I q => by
  unfold mPop at q
  split at q
  · rename_i xs hi
    split at q
    · rename_i y hy
      obtain ⟨p, a, b, c, d, vs, r1, r2⟩ := I.own i _ hi
      obtain ⟨v, hv, rv⟩ := r2.get hy
      refine ⟨.ref p, a, .inl ⟨rfl, vs, .inl (.inl r1)⟩, p, vs, v, rfl, rfl, r1, by rw [r2.len]; exact hv, ?_⟩
      have I2 := I.wrOwn (o := .lst xs.dropLast) (ho := .lst vs.dropLast) hi a b c d ⟨_, rfl, r2.dropLast⟩
      have rv2 : RV K (w.wr p (.lst vs.dropLast)).L (w.wr p (.lst vs.dropLast)).hc y v := by rw [wr_hc b]; exact rv
      exact q (w.wr p (.lst vs.dropLast)) _ rfl (wr_v b) (I2.set rv2)
    · exact q.elim
  · exact q.elim
theorem fs_pop {i j : Nat} {x y : Str} {px py pa pc pos : Pos} (hx : PE X (.Name x px) (tVar i)) (nd : X.N.Nodup) (hj : X.N[j]? = some y) (hl : Loc X.env.scope y)
    (hbase : attributeBase (.Name x px) "pop" X.env (eval (.Name x px) X.env) = eval (.Name x px) X.env := by rfl) (hline : (pa.endLine == pc.line) = true := by rfl)
    (hs : swapsWith (.Call (.Attribute (.Name x px) "pop" pa) [] [] pc) (some (.Name y py)) pos.line X.env = pure false := by rfl) (hf : X.fn y = true ∨ X.env.scope.names.lookup y = some .local := by first | exact .inl rfl | exact .inr rfl) :
    FS X G E (.Assign [.Name y py] (.Call (.Attribute (.Name x px) "pop" pa) [] [] pc) pos) (tAsg (tBM0 X.K "list" rPop (tVar i)) (gName j)) (mPop i j) :=
  ⟨ps_set nd hj hl (pe_bm0 PySem.F.plainAttrs_list PySem.F.slot_list_pop PySem.F.type_list_pop mt_pop hx hbase hline) hs hf, sim_pop⟩
/-- x.extend(e), x a list of ours, e a list -/
def mExtend (i : Nat) (f : Rho → Store → Res PV) : Rho → Store → Res Out := fun ρ S => match ρ[i]? with
  | some (.own (.lst xs)) => (f ρ S).bind fun y S1 => match y with
    | .lst ys => if xs.length + ys.length ≤ sizeM then .ok (.nx (ρ.set i (.own (.lst (xs ++ ys))))) S1 else .bad
    | _ => .bad
  | _ => .bad
theorem sim_extend {K : PySem.W.Frag} {mg : Str → Option Value} {i : Nat} {te f} (he : ESim K mg G E te f) : SSim K mg G E (tDrop (tBM K "list" rExtend (tVar i) (tCons te tNil))) (mExtend i f) := fun w ρ σ D I q => by
  unfold mExtend at q
  split at q
  · rename_i o hi
    obtain ⟨p, a, b, c, d, r⟩ := I.own i _ hi
    · obtain ⟨vs, r1, r2⟩ := r
      refine ⟨.ref p, a, .inl ⟨rfl, vs, .inl (.inl r1)⟩, he w ρ σ _ I (Good.imp (Good.bind1 q) (fun y S1 h1 => ?_) fun _ _ _ h => h.step I.stp I.gok I.ok)⟩
      intro w1 v e1 s1 k1 rv
      cases y <;> first | exact h1.elim | skip
      rename_i ys
      obtain ⟨hsz, h1⟩ := good_if h1
      obtain ⟨b2, us, rfl, g1, g2⟩ := rv
      have I1 := I.step s1 k1
      have gp : w1.H p = some (.lst vs) := s1.keep p _ r1 c
      have hO := s1.omono p b
      have hL : p ∉ w1.L := fun z => by
        rcases s1.lset p z with y | y
        · exact c y
        · rw [r1] at y; cases y
      refine ⟨p, b2, vs, us, rfl, rfl, gp, hc_lst g1, by rw [r2.len, g2.len]; exact sizeM_le hsz, ?_⟩
      exact h1 (w1.wr p (.lst (vs ++ us))) σ e1 ((s1.v I.ok.sub).trans (wr_v hO)) (I1.wrOwn hi a hO hL d ⟨_, rfl, (r2.mono s1.pre (s1.ext I.ok.sub)).append g2⟩)
  · exact q.elim
theorem fs_extend {i : Nat} {x : Str} {px pa pc pos e te f} (hx : PE X (.Name x px) (tVar i)) (he : FE X G E e te f)
    (hbase : attributeBase (.Name x px) "extend" X.env (eval (.Name x px) X.env) = eval (.Name x px) X.env := by rfl)
    (hfew : ((backTo pc (starEach [e] X.env)).all (fun x => !x.1) && (backToKw pc (keywordEach [] X.env)).all (fun x => x.1.isSome) && decide ([e].length + ([] : List Keyword).length + (if ([] : List Keyword).isEmpty then 0 else 1) < 30)) = true := by rfl)
    (hline : (pa.endLine == pc.line) = true := by rfl) (hs : starEach [e] X.env = (false, eval e X.env) :: starEach [] X.env := by rfl) (hsw : swapsWith (.Call (.Attribute (.Name x px) "extend" pa) [e] [] pc) none pos.line X.env = pure false := by rfl) :
    FS X G E (.Expr (.Call (.Attribute (.Name x px) "extend" pa) [e] [] pc) pos) (tDrop (tBM X.K "list" rExtend (tVar i) (tCons te tNil))) (mExtend i f) :=
  ⟨ps_expr (pe_bm PySem.F.plainAttrs_list PySem.F.slot_list_extend PySem.F.type_list_extend mt_extend hx (pa_cons he.pe pa_nil hs) hbase hfew hline hs (by rfl)) hsw, sim_extend he.sim⟩
/-- a, b = (a new list, e): the list is ours -/
def mUnp (i j : Nat) (f : Rho → Store → Res SO) (g : Rho → Store → Res PV) : Rho → Store → Res Out := fun ρ S => (f ρ S).bind fun o S1 => (g ρ S1).bind fun y S2 => .ok (.nx ((ρ.set i (.own o)).set j (.val y))) S2
theorem sim_unp {K : PySem.W.Frag} {mg : Str → Option Value} {i j : Nat} {t te f g} (hf : NSim K mg G E t f) (hg : ESim K mg G E te g) : SSim K mg G E (tPar i j (tCons t (tCons te tNil))) (mUnp i j f g) := fun w ρ σ D I q => by
  refine hf w ρ σ _ I (Good.imp (Good.bind1 q) (fun o S1 h1 => ?_) fun _ _ _ h => h.step I.stp I.gok I.ok)
  intro w1 p e1 s1 k1 n1 o1 l1 r1
  subst e1
  have I1 := I.step s1 k1
  refine hg w1 ρ σ _ I1 (Good.imp (Good.bind1 h1) (fun y S2 h2 => ?_) fun _ _ _ h => h.step I1.stp I1.gok I1.ok)
  intro w2 v e2 s2 k2 r2
  subst e2
  have s12 := s1.tr s2 I.ok k1
  obtain ⟨u, hu⟩ := k1.dom p o1
  have kp2 := s2.keep p u hu l1
  have hL2 : p ∉ w2.L := fun z => by
    rcases s2.lset p z with y | y
    · exact l1 y
    · rw [hu] at y; cases y
  have r1' : SOk K w2.L w2.hc (w2.H p) o := by
    rw [kp2]
    rw [hu] at r1
    exact r1.mono s2.pre (s2.ext k1.sub)
  have J := FI.setOwn (i := i) I s12 k2 n1 (s2.omono p o1) hL2 r1'
  exact ⟨.ref p, v, rfl, h2 w2 _ rfl (s12.v I.ok.sub) (J.set r2)⟩
/-- a call without arguments -/
theorem ke_call0 {P : Program} {W : World} {K : PySem.W.Frag} {mg : Str → Option Value} {base : Heap} {k : Nat} {f : Addr} {fd : FuncData} {ps : List Str} {n : Nat} {m : List PV → Store → Res PV} {x : Str} {p pos} (F : FnG P W K mg base k f fd ps (spM K mg n m)) (hg0 : X.A.guards = some []) (hr : Room k X.A) (hm : mg x = some (.ref f)) (hk : PySem.W.keepIn K (.ref f) = true)
    (hb : Binds K fd ps []) (hx : ∀ σ, PassesAt (L2.CX P W) X σ (E σ)) (c : CtxIs X P W K mg base := by exact ⟨rfl, rfl, rfl, rfl, rfl⟩) (hg : Gl X x := by rfl) (hdb : (x == ("__debug__" : Str)) = false := by decide) :
    FE X G E (.Call (.Name x p) [] [] pos) (tCallSD (spM K mg n m) [] E tNil) (mCall n m [] mNil) := by
  obtain ⟨rfl, rfl, rfl, rfl, rfl⟩ := c
  exact ⟨peG_call0 F hg0 hr hg hm hk hb .nil hx hdb, sim_call (fun _ _ => rfl) (fun w ρ σ Q I h => h w [] rfl (WStep.refl I.ok.sub) I.ok rfl)⟩
end
/-! ### isinstance(x, (A, B)), built-in types -/
def gIsiT (Ts : List String) (x : PV) (S : Store) : Res PV := match tyP x with
  | some a => match Ts.mapM (fun T => kitB a T) with
    | some bs => .ok (.bl (bs.any id)) S
    | none => .bad
  | none => .bad
theorem kitAny_of {K : PySem.W.Frag} {a : String} : ∀ {Ts : List String} {bs : List Bool}, Ts.mapM (fun T => kitB a T) = some bs → PySem.W.kitAny K (.type a) (Ts.map Value.type) = some (bs.any id)
  | [], bs, h => by
    simp at h; subst h
    exact kitAny_nil
  | T :: Ts, bs, h => by
    rw [List.mapM_cons] at h
    cases e1 : kitB a T with
    | none => rw [e1] at h; simp at h
    | some b =>
      rw [e1] at h
      cases e2 : Ts.mapM (fun T => kitB a T) with
      | none => rw [e2] at h; simp at h
      | some r =>
        rw [e2] at h
        simp at h
        subst h
        refine kitAny_cons (kit_ty e1) (fun hb => ?_) (fun hb => by rw [hb]; rfl)
        rw [kitAny_of e2, hb]
        rfl
def mIsiT (Ts : List String) (f : Rho → Store → Res PV) : Rho → Store → Res PV := fun ρ S => (f ρ S).bind fun x S1 => gIsiT Ts x S1
/-- the types of a tuple in the text -/
inductive TyNs (X : Cx) : List Expr → List String → Prop
  | nil : TyNs X [] []
  | cons {Tn : Str} {T : String} {pT : Pos} {es : List Expr} {Ts : List String} (pe : PE X (.Name Tn pT) (tC (.ty T))) (r : TyNs X es Ts) (hs : starEach (.Name Tn pT :: es) X.env = (false, eval (.Name Tn pT) X.env) :: starEach es X.env := by rfl) : TyNs X (.Name Tn pT :: es) (T :: Ts)
theorem TyNs.pa {X es Ts} (h : TyNs X es Ts) : PA X es (tCs (Ts.map V.ty)) := by
  induction h with
  | nil => exact pa_nil
  | cons pe r hs ih => exact pa_cons pe ih hs
theorem tys_pr (Ts : List String) : Paired ClsV (Ts.map V.ty) (Ts.map Value.type) := by
  induction Ts with
  | nil => exact .nil
  | cons T Ts ih => exact .cons (.ty T) ih
section
variable {X : Cx} {G : Wd} {E : EK} (K : PySem.W.Frag)
theorem fe_isiT {Ts : List String} {p pT pos e es kk te f} (hm : X.mg "isinstance" = none) (hT : TyNs X es Ts) (he : FE X G E e te f) (hK : X.K = K := by rfl) (hl : Ts.length ≤ 1000 := by decide) (hg : Gl X "isinstance" := by rfl)
    (hs : starEach [e, .Tuple es kk pT] X.env = (false, eval e X.env) :: starEach [.Tuple es kk pT] X.env := by rfl) (hpl : (backTo pos (starEach [.Tuple es kk pT] X.env)).any (·.1) = false := by rfl) (hs2 : starEach [.Tuple es kk pT] X.env = (false, eval (.Tuple es kk pT) X.env) :: starEach [] X.env := by rfl) :
    FE X G E (.Call (.Name "isinstance" p) [e, .Tuple es kk pT] [] pos) (tCB (rIsiT K) (tCons te (tCons (tTup (tCs (Ts.map V.ty))) tNil))) (mIsiT Ts f) := by
  subst hK
  exact ⟨pe_callB call_isiT hg hm (by decide +kernel) (pa_cons he.pe (pa_cons (pe_tup hT.pa) pa_nil hs2) hs) (by decide) (by decide) hs hpl, fun w ρ σ Q I q => by
    refine he.sim w ρ σ _ I (Good.imp (Good.bind1 q) (fun x S1 h1 => ?_) fun _ _ _ h => h)
    intro w1 v e1 s1 k1 r1
    subst e1
    unfold gIsiT at h1
    split at h1
    · rename_i a ea
      split at h1
      · rename_i bs eb
        refine tCs_ok ⟨by rw [List.length_map]; exact Nat.le_trans hl (by decide), fun t ht => ?_⟩
        exact ⟨v, t, _, .type a, _, _, rfl, upd_same, tys_pr Ts, tyx_of (fun a o h => by rw [upd_ne (ne_of_none (cut_some h).2 ht)]; exact (cut_some h).2) ea r1, kitAny_of eb, h1 (w1.put t (.tup (Ts.map V.ty))) (.bl _) rfl (s1.tr (put_step k1 ht) I.ok k1) (put_ok k1 ht) rfl⟩
      · exact h1.elim
    · exact h1.elim⟩
end
/-! ### several except clauses, all with the same name (slot i) -/
def endA (i : Nat) (D : Ends) : Ends := { nx := fun σ' H' => D.nx (σ'.set i none) H', rt := D.rt, bk := fun σ' H' => D.bk (σ'.set i none) H', ct := fun σ' H' => D.ct (σ'.set i none) H' }
def wL (K : PySem.W.Frag) (i : Nat) (D : Ends) : List (Value × (Addr → Value → Option Addr → TS)) → WX
  | [] => fun _ _ _ _ => False
  | (c, ts) :: r => fun cls d σ H => ∃ b, PySem.W.exmOne K cls c = some b ∧ (b = true → ∀ a, H a = none → ts a cls d (endA i D) (σ.set i (some (.ref a))) H) ∧ (b = false → wL K i D r cls d σ H)
inductive HdsA (X : Cx) (n : Str) : List ExceptHandler → List (Value × (Addr → Value → Option Addr → TS)) → Prop
  | nil : HdsA X n [] []
  | cons {x : Str} {c : Value} {ts : Addr → Value → Option Addr → TS} {b₀ : Stmt} {suite : List Stmt} {np pos' : Pos} {hds : List ExceptHandler} {l : List (Value × (Addr → Value → Option Addr → TS))} (hc : Names X x c)
      (su : ∀ (a : Addr) (oe : Obj) (cls : Value) (d : Option Addr) (pn : List (Addr × Obj)), Zc cls d oe → (∃ vs, oe.data = .fields vs) → PSs (X.suite a ((a, oe) :: pn)) (b₀ :: suite) (ts a cls d)) (r : HdsA X n hds l) :
      HdsA X n (.ExceptHandler (some (.Name x np)) (some n) (b₀ :: suite) pos' :: hds) ((c, ts) :: l)
section
variable {X : Cx} {n : Str} {i : Nat} {body : List Stmt} {h₀ : ExceptHandler} {hds : List ExceptHandler} {l : List (Value × (Addr → Value → Option Addr → TS))} {pos : Pos} {tb : WX → TS}
/-- one clause after the other, with the exception at e0 in hand -/
theorem clauses_go {pins : List (Addr × Obj)} {σ1 : L2.St} {H1 : Hp} {D : Ends} {e0 : Addr} {B : Heap} {cls : Value} {d : Option Addr} {sa sb : Shared} {hh : Heap} (ok : X.Ok) (hfl : X.env.frame = some X.env.locals) (nd : X.N.Nodup) (hn : X.N[i]? = some n) (loc : X.env.kindOf n = some .local)
    (J0 : Inv X pins σ1 H1 sa) (older : ∀ (b : Addr) (o : Obj), sa.heap.get? b = some o → ¬b ∈ frs X.stack → B.get? b = some o) (hst : X.stack = X.env :: X.outer) (upS : sa.heap.UpToSlots hh) (free : H1 e0 = none) (os : sb.os = sa.os) (ag : AllBare sb.gens) (fz : HandSPX.FlyingZ B (X.env :: X.outer) e0 (Zc cls d) hh) :
    ∀ {hs' : List ExceptHandler} {l' : List (Value × (Addr → Value → Option Addr → TS))}, HdsA X n hs' l' → wL X.K i D l' cls d σ1 H1 → wpAny (model X.prog X.w) X.A (handleBy (.ref e0) X.env hs') (SP X pins D) X.xe { sb with heap := hh } := by
  have JL : Inv X pins σ1 H1 { sb with heap := hh } := J0.landed older fz.1 upS os ag
  obtain ⟨ob, fvs, g1, g2, g3⟩ := fz.there
  have far : ∀ {k : Heap} {o : Obj} {vs : Array Value}, k.FunFrames B (X.env :: X.outer) → k.get? e0 = some o → o.data = .fields vs → e0 ∉ frs (X.env :: X.outer) := by
    intro k o vs ff ge de hm
    obtain ⟨_, o2, ge2, hnf⟩ := ff.mem hm
    rw [ge] at ge2
    cases ge2
    exact hnf _ de
  have nf := far fz.2.2.1 g1 g3
  have neL : e0 ≠ X.env.locals := by
    intro z
    exact nf (List.mem_filterMap.mpr ⟨X.env, List.mem_cons_self, by rw [hfl, z]⟩)
  have neF : e0 ∉ X.fs := by
    intro hm
    obtain ⟨en, hen, qe⟩ := List.mem_filterMap.mp hm
    exact nf (List.mem_filterMap.mpr ⟨en, List.mem_cons_of_mem _ hen, qe⟩)
  have SU := JL.suite g1 g3 free neL neF
  intro hs' l' hk
  induction hk with
  | nil => intro w; exact w.elim
  | @cons x c ts b₀ su np ps hds2 l2 nam hsu r ih =>
    rintro ⟨b, mt, yes, no⟩
    refine wpAny_handleBy_cons (codeAny_handlers_test ?_) (by intro q; cases q)
    have ty : PySem.W.Looks (model X.prog X.w) hh (typeOf (.ref e0)) cls := by
      intro A Q E s k q
      exact wpAny_typeOf_ref (k _ _ g1) (by rw [g2.1]; exact q)
    have mtch := PySem.W.exm_one (M := model X.prog X.w) JL.kIn ty mt
    have rd : ∀ {Q : Value → Shared → Prop} {E : Value → Shared → Prop}, Q c { sb with heap := hh } → wpAny (model X.prog X.w) (X.A.mark (some (.ref e0))) (eval (.Name x np) X.env) Q E { sb with heap := hh } := by
      intro Q E q
      obtain ⟨gx, dbg, hm | ⟨hm, hv, nn⟩⟩ := nam
      · exact ld_glob (X := X.suite e0 ((e0, ob) :: (X.pn ++ pins))) SU gx hm q dbg
      · exact ld_blt (X := X.suite e0 ((e0, ob) :: (X.pn ++ pins))) SU gx hm hv q nn dbg
    refine rd (mtch.here ?_)
    cases b with
    | false => exact ih (no rfl)
    | true =>
      refine codeAny_handlers_suite_as (HandSPX.lands_againZ fz fun h5 fz5 up5 => ?_)
      have J5 : Inv X pins σ1 H1 { sb with heap := h5 } := J0.landed older fz5.1 (upS.trans up5) os ag
      obtain ⟨o5, v5, k1, k2, k3⟩ := fz5.there
      have S5 := J5.suite k1 k3 free neL neF
      refine store_ok (X := X.suite e0 ((e0, o5) :: (X.pn ++ pins))) (v := .ref e0) S5 nd hn (.inl loc) rfl (fun t5 T5 => ?_) (.inr loc)
      refine wpAny_mono ((hsu e0 o5 cls d (X.pn ++ pins) k2 ⟨_, k3⟩).run [] t5 _ H1 _ T5 (yes rfl e0 free)) (fun f t6 hp => ?_) (fun _ _ z => False.elim z)
      have fin : ∀ {σ6 : L2.St} {H6 : Hp} {Q : Shared → Prop}, Inv (X.suite e0 ((e0, o5) :: (X.pn ++ pins))) [] σ6 H6 t6 → (∀ s7, Inv X pins (σ6.set i none) H6 s7 → Q s7) →
          wpAny (model X.prog X.w) X.A (do bindName X.env n .none; unbindBehindTheSuite X.env n ps) (fun _ s7 => Q s7) X.xe t6 := by
        intro σ6 H6 Q T6 hq
        exact gone_ok (T6.unsuite ok) nd hn loc hq
      cases f with
      | ret u =>
        obtain ⟨v6, σ6, H6, T6, r6, q6⟩ := hp
        exact fin T6 (fun s7 J7 => ⟨_, _, _, J7, r6, q6⟩)
      | next =>
        obtain ⟨σ6, H6, T6, q6⟩ := hp
        exact fin T6 (fun s7 J7 => ⟨_, _, J7, q6⟩)
      | brk =>
        obtain ⟨σ6, H6, T6, q6⟩ := hp
        exact fin T6 (fun s7 J7 => ⟨_, _, J7, q6⟩)
      | cont =>
        obtain ⟨σ6, H6, T6, q6⟩ := hp
        exact fin T6 (fun s7 J7 => ⟨_, _, J7, q6⟩)
theorem ps_tryL (hst : X.stack = X.env :: X.outer) (hfl : X.env.frame = some X.env.locals) (nd : X.N.Nodup) (hn : X.N[i]? = some n) (loc : X.env.kindOf n = some .local)
    (bd : ∀ (W : WX) (pn : List (Addr × Obj)) (xe : Value → Shared → Prop), Takes (X.tr pn xe) W → PSs (X.tr pn xe) body (tb W)) (hh : HdsA X n (h₀ :: hds) l) : PS X (.Try body (h₀ :: hds) [] [] pos) (fun D σ H => tb (wL X.K i D l) D σ H) := by
  refine ⟨fun pins s σ H D I h => wpAny_Try_except ?_⟩
  have ok := I.ok
  have hfr : X.A.frames = some (X.env :: X.outer) := by rw [ok.frames, hst]
  have hb := bd (wL X.K i D l) (X.pn ++ pins) (fun e s₁ => wpAny (model X.prog X.w) X.A (noteFrame e X.env) (fun _ s₂ => wpAny (model X.prog X.w) X.A (setFlight e none) (fun _ s₃ => wpAny (model X.prog X.w) X.A (handleBy e X.env (h₀ :: hds)) (SP X pins D) X.xe s₃) X.xe s₂) X.xe s₁)
  refine wpAny_mono ((hb fun u s' xx => ?_).run [] s σ H D (I.toTry _) h) (fun f s1 hp => ?_) (fun e s1 he => he)
  · obtain ⟨e0, B, sI, pins', σ1, H1, cls, d, rfl, J', older, up, sky, free, os, ag, w⟩ := xx
    have J : Inv X pins σ1 H1 sI := J'.ofTry ok
    have sky2 : Sky B (X.env :: X.outer) e0 (Zc cls d) X.env.locals s'.heap := by rw [← hst]; exact sky
    show wpAny (model X.prog X.w) X.A (noteFrame (.ref e0) X.env) _ _ _
    exact Sky.land Zc.steady hfr hfl sky2 (fun h3 fz up3 => clauses_go ok hfl nd hn loc J older hst (up.trans up3) free os ag fz hh w)
  · cases f with
    | ret u =>
      obtain ⟨v, σ', H', J', r, q⟩ := hp
      exact ⟨v, σ', H', J'.ofTry ok, r, q⟩
    | next =>
      obtain ⟨σ', H', J', q⟩ := hp
      exact wpAny_execs_nil ⟨σ', H', J'.ofTry ok, q⟩
    | brk =>
      obtain ⟨σ', H', J', q⟩ := hp
      exact ⟨σ', H', J'.ofTry ok, q⟩
    | cont =>
      obtain ⟨σ', H', J', q⟩ := hp
      exact ⟨σ', H', J'.ofTry ok, q⟩
end
/-! ### .. with their mirrors -/
abbrev Hd := List (Str × Bool) × (Rho → Store → Res Out)
def unpin : Slot → Slot
  | .pin _ _ => .none
  | s => s
def clr (ρ : Rho) : Rho := ρ.map unpin
theorem clr_get {ρ : Rho} {j : Nat} {s : Slot} (h : (clr ρ)[j]? = some s) : (∀ c fs, s ≠ .pin c fs) ∧ (s ≠ .none → ρ[j]? = some s) := by
  unfold clr at h
  rw [List.getElem?_map] at h
  cases e : ρ[j]? with
  | none => rw [e] at h; cases h
  | some t =>
    rw [e] at h
    simp only [Option.map_some, Option.some.injEq] at h
    subst h
    cases t with
    | pin c fs => exact ⟨fun _ _ z => by simp [unpin] at z, fun z => absurd rfl z⟩
    | none => exact ⟨fun _ _ z => by simp [unpin] at z, fun z => absurd rfl z⟩
    | val x => exact ⟨fun _ _ z => by simp [unpin] at z, fun _ => rfl⟩
    | own x => exact ⟨fun _ _ z => by simp [unpin] at z, fun _ => rfl⟩
/-- the slots without what an exception had in hand -/
theorem FI.clr {K : PySem.W.Frag} {G G' w : Wd} {ρ : Rho} {σ : L2.St} (I : FI K G' w ρ σ) (gok : WOk K G) (stp : WStep G w) (hH : G'.H = G.H) : FI K G w (clr ρ) σ := by
  refine ⟨gok, I.ok, stp, by rw [I.len]; simp [Mir.clr], fun j y h => ?_, fun j o h => ?_, fun j k oj ok' n h1 h2 => ?_, fun j c fs h => ?_⟩
  · exact I.val j y ((clr_get h).2 (by intro z; cases z))
  · have := I.own j o ((clr_get h).2 (by intro z; cases z))
    rw [hH] at this
    exact this
  · exact I.dis j k oj ok' n ((clr_get h1).2 (by intro z; cases z)) ((clr_get h2).2 (by intro z; cases z))
  · exact absurd rfl ((clr_get h).1 c fs)
/-- how a suite ends: the exception's name is forgotten -/
def endS (all : Bool) (i : Nat) : Res Out → Res Out
  | .ok (.rt x) S => .ok (.rt x) S
  | .ok (.nx ρ) S => if all = true then .ok (.nx (clr (ρ.set i .none))) S else .bad
  | .ok (.bk ρ) S => if all = true then .ok (.bk (clr (ρ.set i .none))) S else .bad
  | .ok (.ct ρ) S => if all = true then .ok (.ct (clr (ρ.set i .none))) S else .bad
  | _ => .bad
def mHds (all : Bool) (i : Nat) : List Hd → Str → List (Str × PV) → Rho → Store → Res Out
  | [], _, _, _, _ => .bad
  | (tbl, fs) :: r, c, fv, ρ, S => match tbl.lookup c with
    | some true => endS all i (fs (ρ.set i (.pin c fv)) S)
    | some false => mHds all i r c fv ρ S
    | none => .bad
/-- a try whose suites return in all runs, and read nothing but their exception -/
def mTryL (i n : Nat) (fb : Rho → Store → Res Out) (hs : List Hd) : Rho → Store → Res Out := fun ρ S => match fb ρ S with
  | .exc c fv S1 => mHds false i hs c fv (List.replicate n Slot.none) S1
  | r => r
/-- a try whose body stores nothing ahead of what may raise -/
def mTryB (i : Nat) (fb : Rho → Store → Res Out) (hs : List Hd) : Rho → Store → Res Out := fun ρ S => match fb ρ S with
  | .exc c fv S1 => if i < ρ.length then mHds true i hs c fv (clr ρ) S1 else .bad
  | r => r
inductive HdsF (X : Cx) (nm : Str) : List ExceptHandler → List (Value × (Addr → Value → Option Addr → TS)) → List Hd → Prop
  | nil : HdsF X nm [] [] []
  | cons {x : Str} {cv : Value} {ts : Addr → Value → Option Addr → TS} {b₀ : Stmt} {suite : List Stmt} {np pos' : Pos} {hds : List ExceptHandler} {l : List (Value × (Addr → Value → Option Addr → TS))} {tbl : List (Str × Bool)} {fs : Rho → Store → Res Out} {r : List Hd} (hc : Names X x cv)
      (ht : ∀ p ∈ tbl, ∃ C, X.mg p.1 = some (.ref C) ∧ PySem.W.exmOne X.K (.ref C) cv = some p.2)
      (hsu : ∀ (G : Wd) (a : Addr) (oe : Obj) (cls : Value) (d : Option Addr) (pn : List (Addr × Obj)), Zc cls d oe → (∃ vs, oe.data = .fields vs) → PinOk X.mg G a cls d → FSs (X.suite a ((a, oe) :: pn)) G (fun _ _ _ _ => False) (b₀ :: suite) (ts a cls d) fs)
      (hr : HdsF X nm hds l r) : HdsF X nm (.ExceptHandler (some (.Name x np)) (some nm) (b₀ :: suite) pos' :: hds) ((cv, ts) :: l) ((tbl, fs) :: r)
theorem HdsF.a {X nm hds l r} (h : HdsF X nm hds l r) : HdsA X nm hds l := by
  induction h with
  | nil => exact .nil
  | cons hc ht hsu hr ih =>
    refine .cons hc (fun a oe cls d pn hz hf => ?_) ih
    obtain ⟨G1, h1⟩ := pinOk_some _ a cls d
    exact (hsu G1 a oe cls d pn hz hf h1).pe
theorem HdsF.sim {X : Cx} {nm : Str} {hds l r} {G w w' : Wd} {all : Bool} {i n : Nat} {c : Str} {fv : List (Str × PV)} {C d : Addr} {vs : List (Str × V)} {D : Ends} {ρh : Rho} {σ' : L2.St} {ex : Str → List (Str × PV) → Store → Prop} (h : HdsF X nm hds l r) (J0 : FI X.K G w' ρh σ') (np : ∀ (j : Nat) c fs, ρh[j]? ≠ some (.pin c fs)) (hv : all = true → VStep w w') (hm : X.mg c = some (.ref C)) (hd : w'.hc d = some (.xd vs)) (rf : RF X.K w'.L w'.hc fv vs) (hl' : σ'.length = n) (hnl : i < n)
    (q : Good (mHds all i r c fv ρh w'.S) (PostS X.K G w D) ex) : wL X.K i D l (.ref C) (some d) σ' w'.H := by
  induction h with
  | nil => exact q.elim
  | @cons x cv ts b₀ suite np' pos' hds l tbl fs r hc ht hsu hr ih =>
    have q : Good (match tbl.lookup c with
      | some true => endS all i (fs (ρh.set i (.pin c fv)) w'.S)
      | some false => mHds all i r c fv ρh w'.S
      | none => .bad) (PostS X.K G w D) ex := q
    cases hb : tbl.lookup c with
    | none => rw [hb] at q; exact q.elim
    | some b =>
      rw [hb] at q
      obtain ⟨C', m1, m2⟩ := ht _ (lookup_mem hb)
      have : C' = C := by have m1 : X.mg c = _ := m1; rw [hm] at m1; cases m1; rfl
      subst this
      cases b with
      | false => exact ⟨false, m2, (fun z => nomatch z), fun _ => ih q⟩
      | true =>
        refine ⟨true, m2, fun _ a ha => ?_, fun z => nomatch z⟩
        have sG := J0.stp
        have gok0 := J0.gok
        let Gp : Wd := { G with pin := some (a, d, fun c' => X.mg c' = some (.ref C')) }
        have stp : WStep Gp w' := ⟨sG.pre, sG.keep, sG.omono, sG.oset, sG.lset⟩
        have gok : WOk X.K Gp := ⟨gok0.sub, gok0.nd, gok0.len, gok0.st, gok0.dom⟩
        have pk : PinOk X.mg Gp a (.ref C') (some d) := ⟨d, _, rfl, fun c' h => ⟨rfl, C', rfl, h⟩⟩
        have hlr : ρh.length = n := by rw [← J0.len, hl']
        have J : FI X.K Gp w' (ρh.set i (.pin c fv)) (σ'.set i (some (.ref a))) := by
          refine ⟨gok, J0.ok, stp, by simp [hl', hlr], fun j y h => ?_, fun j o h => ?_, fun j k oj ok' n h1 h2 => ?_, fun j c2 fs2 h => ?_⟩
          · rcases set_get h with ⟨_, e⟩ | ⟨ne, h⟩
            · cases e
            · rw [List.getElem?_set_ne (Ne.symm ne)]; exact J0.val j y h
          · rcases set_get h with ⟨_, e⟩ | ⟨ne, h⟩
            · cases e
            · rw [List.getElem?_set_ne (Ne.symm ne)]; exact J0.own j o h
          · rcases set_get h1 with ⟨_, e⟩ | ⟨n1, h1⟩
            · cases e
            · rcases set_get h2 with ⟨_, e⟩ | ⟨n2, h2⟩
              · cases e
              · rw [List.getElem?_set_ne (Ne.symm n1), List.getElem?_set_ne (Ne.symm n2)]
                exact J0.dis j k oj ok' n h1 h2
          · rcases set_get h with ⟨rfl, e⟩ | ⟨_, h⟩
            · cases e
              exact ⟨a, d, _, vs, rfl, by rw [List.getElem?_set_self (by rw [hl']; exact hnl)], hm, hd, rf⟩
            · exact absurd h (np j c2 fs2)
        refine (hsu Gp a ⟨.ref C', some d, .fields #[], #[]⟩ (.ref C') (some d) [] ⟨rfl, rfl⟩ ⟨_, rfl⟩ pk).sim w' _ _ _ J ?_
        have q : Good (endS all i (fs (ρh.set i (.pin c fv)) w'.S)) (PostS X.K G w D) ex := q
        have fall : ∀ {ρ2 : Rho} {S2 : Store} {Z : L2.St → Hp → Prop}, all = true → PostR X.K G w Z (clr (ρ2.set i .none)) S2 → PostR X.K Gp w' (fun σ2 H2 => Z (σ2.set i none) H2) ρ2 S2 := fun ha qz w2 σ2 e2 s2 I2 => by
          refine qz w2 (σ2.set i none) e2 ((hv ha).trans s2) (FI.clr (I2.wipe1 (i := i) (v := none)) gok0 ?_ rfl)
          have z := I2.stp
          exact ⟨z.pre, z.keep, z.omono, z.oset, z.lset⟩
        cases es : fs (ρh.set i (.pin c fv)) w'.S with
        | exc c2 f2 S2 => rw [es] at q; exact q.elim
        | bad => rw [es] at q; exact q.elim
        | ok o S2 =>
          rw [es] at q
          cases o with
          | nx ρ2 =>
            obtain ⟨ha, q⟩ := good_if q
            exact fall ha q
          | bk ρ2 =>
            obtain ⟨ha, q⟩ := good_if q
            exact fall ha q
          | ct ρ2 =>
            obtain ⟨ha, q⟩ := good_if q
            exact fall ha q
          | rt y =>
            intro w2 v e2 s2 k2 r2
            exact q w2 v e2 ⟨s2.pre, s2.keep, s2.omono, s2.oset, s2.lset⟩ k2 r2
theorem endS_rt {i : Nat} {r : Res Out} : (∃ x S2, endS false i r = Res.ok (Out.rt x) S2) ∨ endS false i r = .bad := by
  cases r with
  | bad => exact .inr rfl
  | exc c fs S => exact .inr rfl
  | ok o S => cases o <;> first | exact .inl ⟨_, _, rfl⟩ | exact .inr rfl
theorem mHds_rt {i : Nat} {c : Str} {fv : List (Str × PV)} {ρ : Rho} {S : Store} : ∀ {r : List Hd}, (∃ x S2, mHds false i r c fv ρ S = Res.ok (Out.rt x) S2) ∨ mHds false i r c fv ρ S = .bad
  | [] => .inr rfl
  | (tbl, fs) :: r => by
    unfold mHds
    split
    · exact endS_rt
    · exact mHds_rt
    · exact .inr rfl
theorem fs_tryL {X : Cx} {G : Wd} {E : EK} {nm : Str} {i n : Nat} {body : List Stmt} {h₀ : ExceptHandler} {hds : List ExceptHandler} {l : List (Value × (Addr → Value → Option Addr → TS))} {r : List Hd} {pos : Pos} {tb : WX → TS} {fb} (hs : X.stack = X.env :: X.outer) (hf : X.env.frame = some X.env.locals) (hN : X.N.Nodup) (hi : X.N[i]? = some nm) (hln : X.env.kindOf nm = some .local) (hn : X.N.length = n)
    (hb : ∀ (W : WX) (pn : List (Addr × Obj)) (xe : Value → Shared → Prop), Takes (X.tr pn xe) (fun c d _ H => ExAll W n c d H) → FSs (X.tr pn xe) G (fun _ => ExAll W n) body (tb W) fb) (hh : HdsF X nm (h₀ :: hds) l r) :
    FS X G E (.Try body (h₀ :: hds) [] [] pos) (fun D σ H => tb (wL X.K i D l) D σ H) (mTryL i n fb r) :=
  ⟨ps_tryL hs hf hN hi hln (fun W pn xe tk => (hb W pn xe (hn ▸ takes_all (X := X.tr pn xe) tk)).pe) hh.a, fun w ρ σ D I q => by
  refine (hb (wL X.K i D l) [] (fun _ _ => True) (fun _ _ _ => trivial)).sim w ρ σ D I ?_
  unfold mTryL at q
  cases er : fb ρ w.S with
  | ok o S1 => rw [er] at q; exact q
  | bad => rw [er] at q; exact q
  | exc c fv S1 =>
    rw [er] at q
    intro w' C d vs eS sG k' hm hd rf σ' hl'
    subst eS
    have none_of : ∀ {j : Nat} {s : Slot}, (List.replicate n Slot.none)[j]? = some s → s = Slot.none := fun h => (List.mem_replicate.mp (List.mem_of_getElem? h)).2
    have J0 : FI X.K G w' (List.replicate n Slot.none) σ' := ⟨I.gok, k', sG, by simp [hl'], fun j y h => (nomatch none_of h), fun j o h => (nomatch none_of h), fun j k oj ok' n h1 h2 => (nomatch none_of h1), fun j c2 fs2 h => (nomatch none_of h)⟩
    refine hh.sim (w := w) (ρh := List.replicate n Slot.none) (all := false) (ex := ExP X.K X.mg (E σ) G) J0 (fun j c fs h => (nomatch none_of h)) (fun z => nomatch z) hm hd rf hl' (by rw [← hn]; exact (List.getElem?_eq_some_iff.mp hi).1) ?_
    exact q⟩
/-! ### a body that stores nothing ahead of what may raise -/
structure FB (X : Cx) (G : Wd) (E : EK) (st : List Stmt) (ts : TS) (f : Rho → Store → Res Out) : Prop where
  pe : PSs X st ts
  sim : ∀ w ρ σ D, FI X.K G w ρ σ → Good (f ρ w.S) (PostS X.K G w D) (ExP X.K X.mg (E σ) w) → ts D σ w.H
section
variable {X : Cx} {G : Wd} {E : EK}
theorem fb_expr {e pos te f} (he : FE X G E e te f) (hs : swapsWith e none pos.line X.env = pure false := by rfl) : FB X G E [.Expr e pos] (tDrop te) (mDrop f) := ⟨pss_one (ps_expr he.pe hs), fun w ρ σ D I q => by
  refine he.sim w ρ σ _ I (Good.imp (Good.bind1 q) (fun x S1 h1 => ?_) fun _ _ _ h => h)
  intro w1 v e1 s1 k1 r1
  exact h1 w1 σ e1 (s1.v I.ok.sub) (I.step s1 k1)⟩
theorem fb_ret {e pos te f} (he : FE X G E e te f) : FB X G E [.Return (some e) pos] (tRet te) (mRet f) := ⟨pss_one (ps_ret he.pe), fun w ρ σ D I q => by
  refine he.sim w ρ σ _ I (Good.imp (Good.bind1 q) (fun x S1 h1 => ?_) fun _ _ _ h => h)
  intro w1 v e1 s1 k1 r1
  have I1 := I.step s1 k1
  exact h1 w1 v e1 I1.stp k1 (cut_ret I1.stp k1 r1)⟩
theorem fb_set {i : Nat} {x : Str} {pos' pos e te f} (nd : X.N.Nodup) (hi : X.N[i]? = some x) (hx : Loc X.env.scope x) (he : FE X G E e te f) (hs : swapsWith e (some (.Name x pos')) pos.line X.env = pure false := by rfl) (hf : X.fn x = true ∨ X.env.scope.names.lookup x = some .local := by first | exact .inl rfl | exact .inr rfl) :
    FB X G E [.Assign [.Name x pos'] e pos] (tAsg te (gName i)) (mSet i f) := ⟨pss_one (ps_set nd hi hx he.pe hs hf), fun w ρ σ D I q => by
  refine he.sim w ρ σ _ I (Good.imp (Good.bind1 q) (fun x S1 h1 => ?_) fun _ _ _ h => h)
  intro w1 v e1 s1 k1 r1
  exact h1 w1 (σ.set i (some v)) e1 (s1.v I.ok.sub) ((I.step s1 k1).set r1)⟩
theorem fb_nil : FB X G E [] tNext mSkip := ⟨pss_nil, fun w ρ σ D I q => q w σ rfl (VStep.refl w) I⟩
theorem fb_if {c a b pos tc ta tb fc fa fb} (hc : FT X G E c tc fc) (ha : FB X G E a ta fa) (hb : FB X G E b tb fb) : FB X G E [.If c a b pos] (tIfS tc ta tb) (mIfS fc fa fb) := ⟨pss_one (ps_if hc.pe ha.pe hb.pe), fun w ρ σ D I q => by
  refine hc.sim w ρ σ _ I (Good.imp (Good.bind1 q) (fun k S1 h1 => ?_) fun _ _ _ h => h)
  intro w1 e1 s1 k1
  subst e1
  have h1 : Good (if k then fa ρ w1.S else fb ρ w1.S) (PostS X.K G w D) (ExP X.K X.mg (E σ) w) := h1
  cases k with
  | true =>
    rw [if_pos rfl] at h1 ⊢
    exact ha.sim w1 ρ σ D (I.step s1 k1) (Good.imp h1 (fun _ _ h => h.step (s1.v I.ok.sub)) fun _ _ _ h => h.step s1 I.ok k1)
  | false =>
    rw [if_neg Bool.false_ne_true] at h1 ⊢
    exact hb.sim w1 ρ σ D (I.step s1 k1) (Good.imp h1 (fun _ _ h => h.step (s1.v I.ok.sub)) fun _ _ _ h => h.step s1 I.ok k1)⟩
/-- f(..) on a row of its own, then the rest -/
theorem fb_cons {e pos te f rest tr fr} (he : FE X G E e te f) (hr : FB X G E rest tr fr) (hs : swapsWith e none pos.line X.env = pure false := by rfl) : FB X G E (.Expr e pos :: rest) (tSeq (tDrop te) tr) (mSeq (mDrop f) fr) := ⟨pss_cons (ps_expr he.pe hs) hr.pe, fun w ρ σ D I q => by
  have q2 : Good (f ρ w.S) (fun _ S1 => Good (fr ρ S1) (PostS X.K G w D) (ExP X.K X.mg (E σ) w)) (ExP X.K X.mg (E σ) w) := by
    have q1 := Good.bind1 q
    unfold mDrop at q1
    have q2 := Good.bind1 q1
    exact q2
  refine he.sim w ρ σ _ I (Good.imp q2 (fun x S1 h1 => ?_) fun _ _ _ h => h)
  intro w1 v e1 s1 k1 r1
  subst e1
  exact hr.sim w1 ρ σ D (I.step s1 k1) (Good.imp h1 (fun _ _ h => h.step (s1.v I.ok.sub)) fun _ _ _ h => h.step s1 I.ok k1)⟩
end
theorem fs_tryB {X : Cx} {G : Wd} {E : EK} {nm : Str} {i n : Nat} {body : List Stmt} {h₀ : ExceptHandler} {hds : List ExceptHandler} {l : List (Value × (Addr → Value → Option Addr → TS))} {r : List Hd} {pos : Pos} {tb : WX → TS} {fb} (hs : X.stack = X.env :: X.outer) (hf : X.env.frame = some X.env.locals) (hN : X.N.Nodup) (hi : X.N[i]? = some nm) (hln : X.env.kindOf nm = some .local) (hn : X.N.length = n)
    (hb : ∀ (W : WX) (pn : List (Addr × Obj)) (xe : Value → Shared → Prop), Takes (X.tr pn xe) W → FB (X.tr pn xe) G (WE W) body (tb W) fb) (hh : HdsF X nm (h₀ :: hds) l r) :
    FS X G E (.Try body (h₀ :: hds) [] [] pos) (fun D σ H => tb (wL X.K i D l) D σ H) (mTryB i fb r) :=
  ⟨ps_tryL hs hf hN hi hln (fun W pn xe tk => (hb W pn xe tk).pe) hh.a, fun w ρ σ D I q => by
  refine (hb (wL X.K i D l) [] (fun _ _ => True) (fun _ _ _ => trivial)).sim w ρ σ D I ?_
  unfold mTryB at q
  cases er : fb ρ w.S with
  | ok o S1 => rw [er] at q; exact q
  | bad => rw [er] at q; exact q
  | exc c fv S1 =>
    rw [er] at q
    intro w' C d vs eS sw k' hm hd rf
    subst eS
    have J1 := I.step sw k'
    obtain ⟨hil, q⟩ := good_if q
    exact hh.sim (w := w) (ρh := clr ρ) (all := true) (ex := ExP X.K X.mg (E σ) G) (J1.clr J1.gok J1.stp rfl) (fun j c fs h => absurd rfl ((clr_get h).1 c fs)) (fun _ => sw.v I.ok.sub) hm hd rf rfl (by rw [I.len]; exact hil) q⟩
end Mir
set_option maxHeartbeats 4000000
/-! MirW: short forms, heads with tables and classes. -/
namespace Mir
open PySem PySem.Spec PyProof.Rows L2
theorem hu_of2 {k : Nat} {A : Around} (hr : Room k A) : A.units + 200 < cLine := by have := hr.un; omega
section
variable {X : Cx} {G : Wd} {E : EK} {E1 : XK} (K : PySem.W.Frag)
theorem call_reprU (hu : X.A.units + 200 < cLine) (hg : X.A.guards = some []) : CallR X (.builtin "repr") (rRepr X.K) := by
  intro pins s σ H xs us Q I r ⟨x, d, ex, dp, hs, hd, hz, hdep, q⟩
  subst ex
  obtain ⟨u, rfl, ru⟩ := vals1 r
  cases dp with
  | non =>
    cases ru
    exact PySem.P.repr_of_none ⟨.str _, H, I.tok _, ⟨_, rfl⟩, by simp only [PyData.shown] at q; exact q⟩
  | bl b =>
    cases ru
    exact PySem.P.repr_of_bool ⟨.str _, H, I.tok _, ⟨_, rfl⟩, by simp only [PyData.shown] at q; exact q⟩
  | int i =>
    obtain ⟨t, rfl⟩ := ru
    exact PySem.P.repr_of_int (by simpa [PyData.showable] using hs) ⟨.str _, H, I.tok _, ⟨_, rfl⟩, by simp only [PyData.shown] at q; exact q⟩
  | str z =>
    obtain ⟨t, rfl⟩ := ru
    exact PySem.P.repr_of_str ⟨.str _, H, I.tok _, ⟨_, rfl⟩, by simp only [PyData.shown] at q; exact q⟩ (hsz := by simpa [PyData.shown] using hz)
  | @lst a ys ds h1 h2 =>
    obtain ⟨as, rd⟩ := Dp.reads I (.list ds) (.ref a) u (.lst h1 h2) ru
    cases ru
    exact repr_of_reads' rd hs (PyData.noDict_hsm hd) hg (by omega) (fun _ _ e => e) (fun h' t tk kp => ⟨.str _, H, I.kept (t' := tk) kp, ⟨t, rfl⟩, q⟩) hz
  | @tup a ys ds h1 h2 =>
    obtain ⟨as, rd⟩ := Dp.reads I (.tuple ds) (.ref a) u (.tup h1 h2) ru
    cases ru
    exact repr_of_reads' rd hs (PyData.noDict_hsm hd) hg (by omega) (fun _ _ e => e) (fun h' t tk kp => ⟨.str _, H, I.kept (t' := tk) kp, ⟨t, rfl⟩, q⟩) hz
theorem kReprU (hu : X.A.units + 200 < cLine) (hg : X.A.guards = some []) (h : X.K = K := by rfl) : CallR X (.builtin "repr") (rRepr K) := h ▸ call_reprU hu hg
theorem kEqD (hu : X.A.units + 200 < cLine) (h : X.K = K := by rfl) : OpR X (compareOp .Eq) (rEqE K) := h ▸ op_eq.or (op_eqD (by omega))
theorem kNeD (hu : X.A.units + 200 < cLine) (h : X.K = K := by rfl) : OpR X (compareOp .NotEq) (rNeE K) := h ▸ op_ne.or (op_neD (by omega))
theorem kInD (hu : X.A.units + 200 < cLine) (h : X.K = K := by rfl) : OpR X (compareOp .In) (rInA K) := h ▸ op_inA (by omega)
theorem fs_asgT {es : List Expr} {k : Nat} {tp : Pos} {e pos te f g fg} (he : FE X G (fun _ => E1) e te f) (hg : FG X G E1 (.Tuple es k tp) g fg) (hs : swapsWithSole [.Tuple es k tp] e pos.line X.env = pure false := by rfl) (hw : swappedStores [.Tuple es k tp] e X.env = pure none := by rfl)
    (h1 : (assignEach [.Tuple es k tp] X.env).map (·.2) = [assign (.Tuple es k tp) X.env] := by rfl) : FS X G (fun _ => E1) (.Assign [.Tuple es k tp] e pos) (tAsg te g) (mAsg f fg) := fs_asg he hg (ps_asg he.pe hg.pe hs hw h1)
theorem fs_unp {x y : Str} {px py : Pos} {k k2 : Nat} {tp ep : Pos} {e1 e2 pos t f te g} {i j : Nat} (nd : X.N.Nodup) (hi : X.N[i]? = some x) (hj : X.N[j]? = some y) (he : FN X G E e1 t f) (hg : FE X G E e2 te g) (hij : i ≠ j := by decide) (hx : X.env.scope.names.lookup x = some .local := by rfl) (hy : X.env.scope.names.lookup y = some .local := by rfl) (hc : X.calm = true := by rfl)
    (h12 : starEach [e1, e2] X.env = (false, eval e1 X.env) :: starEach [e2] X.env := by rfl) (h22 : starEach [e2] X.env = (false, eval e2 X.env) :: starEach [] X.env := by rfl)
    (hw : swappedStores [.Tuple [.Name x px, .Name y py] k tp] (.Tuple [e1, e2] k2 ep) X.env = pure (some [x, y]) := by rfl) :
    FS X G E (.Assign [.Tuple [.Name x px, .Name y py] k tp] (.Tuple [e1, e2] k2 ep) pos) (tPar i j (tCons t (tCons te tNil))) (mUnp i j f g) :=
  ⟨ps_par hc nd hi hj hij hx hy (pa_cons he.pe (pa_cons hg.pe pa_nil h22) h12) hw, sim_unp he.sim hg.sim⟩
theorem gk_tup {vs : List Nat} {es k t pos f} {n : Nat} (h : FGts X G es t f vs) (pe : PG X (.Tuple es k pos) (L2.gTup X.K n t)) (hK : X.K = K := by rfl) : FGt X G (.Tuple es k pos) (L2.gTup K n t) (gTupM n f) vs := hK ▸ gt_tup h pe
theorem gk_un {es k t pos f} {n : Nat} (h : FGs X G E1 es t f) (p1 : PG X (.Tuple es k pos) (L2.gTup X.K n t)) (p2 : PG X (.Tuple es k pos) (L2.gLst X.K n t)) (hK : X.K = K := by rfl) : FG X G E1 (.Tuple es k pos) (gUnR K n t) (gUn n f) := hK ▸ fg_un h p1 p2
end
theorem tb_nil {α : Type} {P : α → Prop} : ∀ p ∈ ([] : List α), P p := fun _ h => nomatch h
theorem tb_cons {α : Type} {P : α → Prop} {x : α} {l : List α} (h : P x) (r : ∀ p ∈ l, P p) : ∀ p ∈ x :: l, P p := fun p hp => by
  rcases List.mem_cons.mp hp with rfl | hp
  · exact h
  · exact r p hp
/-- fuel has run out -/
theorem fnG_bad {P : Program} {w : World} {K : PySem.W.Frag} {mg : Str → Option Value} {base : Heap} {k n : Nat} {f : Addr} {fd : FuncData} {ps : List Str} (hn : n = ps.length) : FnG P w K mg base k f fd ps (spM K mg n fun _ _ => .bad) :=
  ⟨fun vs H Q E h => (spM_len vs H Q E h).trans hn, fun _ _ _ _ _ _ _ _ _ _ _ _ _ _ ⟨_, _, _, _, _, _, g⟩ => g.elim⟩
/-! ### heads -/
def entB (K : PySem.W.Frag) : List DictEntry → List (Str × PV) → Bool
  | [], [] => true
  | e :: es, (k, p) :: r => (match e.key with | .str y _ => decide (y = k) | _ => false) && (pvB K p e.val && entB K es r)
  | _, _ => false
theorem entB_ok {K : PySem.W.Frag} {z : Str} : ∀ {es : List DictEntry} {tbl : List (Str × PV)}, entB K es tbl = true → es.any (·.refKey) = false ∧ match tbl.lookup z with
    | none => es.find? (·.key.isStr z) = none
    | some p => ∃ e, es.find? (·.key.isStr z) = some e ∧ pvB K p e.val = true
  | [], [], _ => ⟨rfl, rfl⟩
  | [], _ :: _, h => by simp [entB] at h
  | _ :: _, [], h => by simp [entB] at h
  | e :: es, (k, p) :: r, h => by
    obtain ⟨h1, h2⟩ := He.ba h
    obtain ⟨h3, h4⟩ := He.ba h2
    obtain ⟨i1, i2⟩ := entB_ok (z := z) h4
    obtain ⟨hh, ky, vl⟩ := e
    cases ky with
    | str y t =>
      have e1 : y = k := of_decide_eq_true h1
      subst e1
      refine ⟨?_, ?_⟩
      · rw [List.any_cons, i1]; rfl
      · rw [List.lookup_cons, List.find?_cons]
        by_cases q : z = y
        · subst q
          have : (z == z) = true := by simp
          rw [this]
          have e2 : (Value.str z t).isStr z = true := by simp [Value.isStr]
          show ∃ e, (match (Value.str z t).isStr z with | true => _ | false => _) = some e ∧ _
          rw [e2]
          exact ⟨_, rfl, h3⟩
        · have e2 : (Value.str y t).isStr z = false := by
            simp [Value.isStr]
            exact fun e => q e.symm
          have e3 : (z == y) = false := by simpa using q
          rw [e3]
          show match r.lookup z with | none => (match (Value.str y t).isStr z with | true => _ | false => _) = none | some p => ∃ e, (match (Value.str y t).isStr z with | true => _ | false => _) = some e ∧ _
          rw [e2]
          exact i2
    | _ => cases h1
def dicB (K : PySem.W.Frag) (x : Str) (tbl : List (Str × PV)) : Bool := He.eqO (PySem.W.nsIn K mainGlobals x) (some (some (.ref (He.ga K x)))) && (match K.lookup (He.ga K x) with
  | some ⟨_, _, .dict es _, _⟩ => entB K es.toList tbl
  | _ => false)
theorem dic_ok {K : PySem.W.Frag} {h : Heap} {w : World} {mg : Str → Option Value} (X : K.In h) (G : h.Ns mainGlobals mg) {x : Str} {tbl : List (Str × PV)} (c : dicB K x tbl = true) (kd : ∃ es n, KDict K w (He.ga K x) es n) : CDict K w mg x (He.ga K x) tbl := by
  obtain ⟨h1, h2⟩ := He.ba c
  have ns : ∃ es n oc od sl, K.lookup (He.ga K x) = some ⟨oc, od, .dict es n, sl⟩ ∧ entB K es.toList tbl = true := by
    cases q : K.lookup (He.ga K x) with
    | none => rw [q] at h2; cases h2
    | some o =>
      obtain ⟨oc, od, dt, sl⟩ := o
      rw [q] at h2
      cases dt with
      | dict es n => exact ⟨es, n, oc, od, sl, rfl, h2⟩
      | _ => cases h2
  obtain ⟨es, n, oc, od, sl, lk, eb⟩ := ns
  refine ⟨PySem.W.mg_of X G (He.eqO_ok h1), kd, fun z hz => ?_, fun z p hz => ?_⟩
  · obtain ⟨i1, i2⟩ := entB_ok (z := z) eb
    rw [hz] at i2
    unfold PySem.W.nsIn
    rw [lk]
    show (match es.toList.find? (·.key.isStr z) with | some e => some (some e.val) | none => if es.toList.any (·.refKey) then none else some none) = some none
    rw [show es.toList.find? (·.key.isStr z) = none from i2, i1]
    rfl
  · obtain ⟨i1, i2⟩ := entB_ok (z := z) eb
    rw [hz] at i2
    obtain ⟨e, e1, e2⟩ := i2
    obtain ⟨v, r1, r2⟩ := pvB_ok e2
    refine ⟨v, e.val, ?_, r1, r2⟩
    unfold PySem.W.nsIn
    rw [lk]
    show (match es.toList.find? (·.key.isStr z) with | some e => some (some e.val) | none => if es.toList.any (·.refKey) then none else some none) = some (some e.val)
    rw [e1]
def obsN (n : Nat) (fa : List He.Fa) (fn : List He.DefD) (ts : List He.Tab) (ex : PySem.W.Frag → Bool) (g : Addr → Option Obj) : He.AlT × Bool := (He.obsT fa fn ts (He.frG g (He.asD g n)), ex (He.frG g (He.asD g n)))
def hookN (n : Nat) (fa : List He.Fa) (fn : List He.DefD) (ts : List He.Tab) (ex : PySem.W.Frag → Bool) : PySem.W.Hook where
  α := He.AlT × Bool
  obs := fun s => obsN n fa fn ts ex s.heap.get?
  val := fun w => (He.valT fn ts w, true)
  says := fun w h => ∃ K : PySem.W.Frag, K.In h ∧ He.SaysT fa fn ts w K ∧ ex K = true
  of := fun _ _ e => ⟨_, He.frG_in, congrArg Prod.fst e, congrArg Prod.snd e⟩
  keeps := fun _ _ _ ⟨K, hK, c⟩ k => ⟨K, PySem.W.Frag.In.keeps hK k, c⟩
def obN (n : Nat) (fa : List He.Fa) (fn : List He.DefD) (ts : List He.Tab) (ex : PySem.W.Frag → Bool) (s : PySem.W.SharedT) : He.AlT × Bool := obsN n fa fn ts ex (HandSHeadRun.getT s)
theorem obN_eq {n : Nat} {fa : List He.Fa} {fn : List He.DefD} {ts : List He.Tab} {ex : PySem.W.Frag → Bool} (s : PySem.W.SharedT) : obN n fa fn ts ex s = (hookN n fa fn ts ex).obs s.abs := by
  have e : HandSHeadRun.getT s = s.abs.heap.get? := funext fun a => HandSHeadRun.getT_eq s a
  unfold obN
  rw [e]
  rfl
end Mir
namespace Mir
open PySem PySem.Spec PyProof.Rows L2
theorem takes_def {P : Program} {w : World} {K : PySem.W.Frag} {mg : Str → Option Value} {base : Heap} {N : List Str} {qual : Str} {sc : Scope} {f : Addr} {cd : Value} {A : Around} {outer : List Env} {s : Shared} {H : Hp} {E : XK} :
    Takes (cxOf (L2.CX P w) P w K mg base N qual sc f cd A outer s H E) (fun c d _ H => E c d H) := takes_of rfl rfl rfl rfl
/-- the j-th statement of a class's body -/
def clsStmt (st : Stmt) (j : Nat) : Stmt := match st with
  | .ClassDef _ _ _ body _ _ _ _ _ _ _ => body.getD j (.Pass ⟨0, 0, 0, 0⟩)
  | _ => .Pass ⟨0, 0, 0, 0⟩
end Mir
namespace Mir
open PySem
/-- a world whose followText says b at x -/
def setFT (w : World) (x : String) (b : Bool) : World := { w with params := { w.params with followText := fun s => if s = x then b else w.params.followText s } }
theorem setFT_eq (w : World) (x : String) : setFT w x (w.params.followText x) = w := by
  have h : (fun s => if s = x then w.params.followText x else w.params.followText s) = w.params.followText := by
    funext s
    by_cases h : s = x
    · subst h; simp
    · simp [h]
  unfold setFT
  rw [h]
end Mir
set_option maxHeartbeats 4000000
/-! MirL: what mirrors come to: rules applied to a frame and a store; loops; the draws of every law. -/
namespace Mir
open PySem L2

/-- an equation that is used as such, not by computing -/
theorem nrfl {α : Type} {a b : α} (h : a = b) : a = b := h
/-! ### rules, applied -/
section
variable {α β : Type} {ρ : Rho} {S S' : Store} {f g h : Rho → Store → Res Out} {a b c : Rho → Store → Res PV} {t u : Rho → Store → Res Bool} {as : Rho → Store → Res (List PV)} {n : Rho → Store → Res SO} {i : Nat}
theorem ev_bind {x : α} {k : α → Store → Res β} : (Res.ok x S).bind k = k x S := nrfl rfl
theorem ev_bindBad {k : α → Store → Res β} : (Res.bad : Res α).bind k = .bad := nrfl rfl
theorem ev_nox {x : α} : (Res.ok x S).nox = .ok x S := nrfl rfl
theorem ev_seq : mSeq f g ρ S = (f ρ S).bind fun o S1 => match o with | .nx ρ' => g ρ' S1 | o => .ok o S1 := nrfl rfl
theorem ev_set : mSet i a ρ S = (a ρ S).bind fun x S1 => .ok (.nx (ρ.set i (.val x))) S1 := nrfl rfl
theorem ev_setOwn : mSetOwn i n ρ S = (n ρ S).bind fun x S1 => .ok (.nx (ρ.set i (.own x))) S1 := nrfl rfl
theorem ev_share : mShare i n ρ S = (n ρ S).bind fun o S1 => .ok (.nx (ρ.set i (.val (.obj S1.length)))) (S1 ++ [o]) := nrfl rfl
theorem ev_drop : mDrop a ρ S = (a ρ S).bind fun _ S1 => .ok (.nx ρ) S1 := nrfl rfl
theorem ev_ret : mRet a ρ S = (a ρ S).bind fun x S1 => .ok (.rt x) S1 := nrfl rfl
theorem ev_retOwn : mRetOwn i ρ S = match ρ[i]? with | some (.own o) => .ok (.rt (frz o)) S | _ => .bad := nrfl rfl
theorem ev_skip : mSkip ρ S = .ok (.nx ρ) S := nrfl rfl
theorem ev_brk : mBrk ρ S = .ok (.bk ρ) S := nrfl rfl
theorem ev_cnt : mCnt ρ S = .ok (.ct ρ) S := nrfl rfl
theorem ev_ifS : mIfS t f g ρ S = (t ρ S).bind fun k S1 => if k then f ρ S1 else g ρ S1 := nrfl rfl
theorem ev_frzS : mFrzS i f ρ S = f (frzAt i ρ) S := nrfl rfl
theorem ev_append : mAppend i a ρ S = match ρ[i]? with
    | some (.own (.lst xs)) => (a ρ S).bind fun y S1 => if xs.length < sizeM then .ok (.nx (ρ.set i (.own (.lst (xs ++ [y]))))) S1 else .bad
    | _ => .bad := nrfl rfl
theorem ev_setIx : mSetIx i b a ρ S = (a ρ S).bind fun y S1 => match ρ[i]? with
  | some (.own (.lst xs)) => (b ρ S1).bind fun k S2 => setIx i xs y ρ k S2
  | some (.val (.obj n)) => (b ρ S1).bind fun k S2 => setIxO n y ρ k S2
  | _ => .bad := nrfl rfl
theorem ev_for {it : Rho → Store → Res (List PV)} {tg : PV → Rho → Store → Res Rho} : mFor it tg f ρ S = (it ρ S).bind fun xs S1 => mForGo tg f xs ρ S1 := nrfl rfl
theorem ev_lc {it : Rho → Store → Res (List PV)} {tg : PV → Rho → Store → Res Rho} {vs : List Nat} : mLc it tg t a vs ρ S = (it ρ S).bind fun xs S1 => if xs.length ≤ sizeM then (mLcGo tg t a (mWipe ρ vs) xs S1).bind fun ys S2 => .ok (.lst ys) S2 else .bad := nrfl rfl
theorem ev_seqOf : mSeqOf a ρ S = (a ρ S).bind toSeq := nrfl rfl
theorem ev_range {r : List PV → Store → Res (List PV)} : mRange r as ρ S = (as ρ S).bind r := nrfl rfl
theorem ev_var : mVar i ρ S = match ρ[i]? with | some (.val x) => .ok x S | _ => .bad := nrfl rfl
theorem ev_c {x : PV} : mC x ρ S = .ok x S := nrfl rfl
theorem ev_op {r : PV → PV → Store → Res α} : mOp r a b ρ S = (a ρ S).bind fun x S1 => (b ρ S1).bind fun y S2 => r x y S2 := nrfl rfl
theorem ev_un {r : PV → Store → Res α} : mUn r a ρ S = (a ρ S).bind r := nrfl rfl
theorem ev_args {r : List PV → Store → Res α} : mArgs r as ρ S = (as ρ S).bind r := nrfl rfl
theorem ev_nil : mNil ρ S = .ok [] S := nrfl rfl
theorem ev_cons : mCons a as ρ S = (a ρ S).bind fun x S1 => (as ρ S1).bind fun xs S2 => .ok (x :: xs) S2 := nrfl rfl
theorem ev_frz : mFrz n ρ S = (n ρ S).bind fun o S1 => .ok (frz o) S1 := nrfl rfl
theorem ev_b : mB a ρ S = (a ρ S).bind toB := nrfl rfl
theorem ev_and : mAnd t u ρ S = (t ρ S).bind fun c S1 => if c then u ρ S1 else .ok false S1 := nrfl rfl
theorem ev_or : mOr t u ρ S = (t ρ S).bind fun c S1 => if c then .ok true S1 else u ρ S1 := nrfl rfl
theorem ev_not : mNot t ρ S = (t ρ S).bind fun c S1 => .ok (!c) S1 := nrfl rfl
theorem ev_andV : mAndV a b ρ S = (mB a ρ S).bind fun c S1 => if c then b ρ S1 else .ok (.bl false) S1 := nrfl rfl
theorem ev_orV : mOrV a b ρ S = (mB a ρ S).bind fun c S1 => if c then .ok (.bl true) S1 else b ρ S1 := nrfl rfl
theorem ev_notV : mNotV a ρ S = (mB a ρ S).bind fun c S1 => .ok (.bl (!c)) S1 := nrfl rfl
theorem ev_if {x y : Rho → Store → Res α} : mIf t x y ρ S = (t ρ S).bind fun c S1 => if c then x ρ S1 else y ρ S1 := nrfl rfl
theorem ev_chain {r r' : PV → PV → Store → Res PV} : mChain r r' a b c ρ S = (a ρ S).bind fun x S1 => (b ρ S1).bind fun y S2 => (r x y S2).bind fun z S3 => (toB z S3).bind fun k S4 => if k then (c ρ S4).bind fun u S5 => r' y u S5 else .ok (.bl false) S4 := nrfl rfl
theorem ev_isi {T : String} : mIsi T a ρ S = (a ρ S).bind fun x S1 => gIsi T x S1 := nrfl rfl
theorem ev_ixOwn : mIxOwn i a ρ S = match ρ[i]? with | some (.own (.lst xs)) => (a ρ S).bind fun k S1 => gIx (.lst xs) k S1 | _ => .bad := nrfl rfl
theorem ev_lenOwn : mLenOwn i ρ S = match ρ[i]? with | some (.own (.lst xs)) => .ok (.int xs.length) S | _ => .bad := nrfl rfl
theorem ev_call {k : Nat} {m : List PV → Store → Res PV} {ds : List PV} : mCall k m ds as ρ S = (as ρ S).bind fun xs S1 => if (xs ++ ds).length = k then m (xs ++ ds) S1 else .bad := nrfl rfl
theorem ev_callK {k : Nat} {m : List PV → Store → Res PV} {gP : List PV → List PV → List PV} {fk : Rho → Store → Res (List PV)} : mCallK k m gP as fk ρ S = (as ρ S).bind fun xs S1 => (fk ρ S1).bind fun ys S2 => if (gP xs ys).length = k then m (gP xs ys) S2 else .bad := nrfl rfl
theorem ev_sl {r : PV → Option Int → Option Int → Store → Res α} {l h : Rho → Store → Res (Option Int)} : mSl r a l h ρ S = (a ρ S).bind fun x S1 => (l ρ S1).bind fun i S2 => (h ρ S2).bind fun j S3 => r x i j S3 := nrfl rfl
theorem ev_part : mPart a ρ S = (a ρ S).bind fun x S1 => match x with | .int i => .ok (some i) S1 | _ => .bad := nrfl rfl
theorem ev_true : mTrue ρ S = .ok true S := nrfl rfl
theorem ev_nm {x : PV} : gNm i x ρ S = .ok (ρ.set i (.val x)) S := nrfl rfl
theorem ev_toB {k : Bool} : toB (.bl k) S = .ok k S := nrfl rfl
end
theorem toSeq_tup {xs : List PV} {S : Store} : toSeq (.tup xs) S = .ok xs S := nrfl rfl
theorem toSeq_lst {xs : List PV} {S : Store} : toSeq (.lst xs) S = .ok xs S := nrfl rfl
theorem toSeq_cl {xs : List PV} {S : Store} : toSeq (.cl xs) S = .ok xs S := nrfl rfl
/-! ### loops -/
section
variable {g : PV → Rho → Store → Res Rho} {b : Rho → Store → Res Out}
/-- a loop by an invariant over what is done -/
theorem for_inv {xs : List PV} (Pv : List PV → Rho → Store → Prop)
    (h : ∀ pre x post ρ S, xs = pre ++ x :: post → Pv pre ρ S → ∃ ρ' S', ((g x ρ S).bind (fun ρ1 S1 => b ρ1 S1) = .ok (.nx ρ') S' ∨ (g x ρ S).bind (fun ρ1 S1 => b ρ1 S1) = .ok (.ct ρ') S') ∧ Pv (pre ++ [x]) ρ' S') :
    ∀ ρ S, Pv [] ρ S → ∃ ρ' S', mForGo g b xs ρ S = .ok (.nx ρ') S' ∧ Pv xs ρ' S' := by
  have key : ∀ (post pre : List PV), xs = pre ++ post → ∀ ρ S, Pv pre ρ S → ∃ ρ' S', mForGo g b post ρ S = .ok (.nx ρ') S' ∧ Pv xs ρ' S' := by
    intro post
    induction post with
    | nil =>
      intro pre e ρ S hp
      rw [List.append_nil] at e
      exact ⟨ρ, S, rfl, e ▸ hp⟩
    | cons x post ih =>
      intro pre e ρ S hp
      obtain ⟨ρ', S', hb, hp'⟩ := h pre x post ρ S e hp
      obtain ⟨ρ2, S2, e2, h2⟩ := ih (pre ++ [x]) (by rw [e, List.append_assoc]; rfl) ρ' S' hp'
      refine ⟨ρ2, S2, ?_, h2⟩
      rw [← e2]
      show ((g x ρ S).bind fun ρ1 S1 => (b ρ1 S1).bind _) = _
      cases eg : g x ρ S with
      | bad => rw [eg] at hb; rcases hb with hb | hb <;> cases hb
      | exc c fs S1 => rw [eg] at hb; rcases hb with hb | hb <;> cases hb
      | ok ρ1 S1 =>
        rw [eg] at hb
        rcases hb with hb | hb
        · show (b ρ1 S1).bind _ = _
          rw [show b ρ1 S1 = .ok (.nx ρ') S' from hb]
          rfl
        · show (b ρ1 S1).bind _ = _
          rw [show b ρ1 S1 = .ok (.ct ρ') S' from hb]
          rfl
  intro ρ S hp
  exact key xs [] rfl ρ S hp
/-- a loop that may return -/
theorem for_ret {xs : List PV} (Pv : List PV → Rho → Store → Prop) (Rt : PV → Store → Prop)
    (h : ∀ pre x post ρ S, xs = pre ++ x :: post → Pv pre ρ S → (∃ ρ' S', ((g x ρ S).bind (fun ρ1 S1 => b ρ1 S1) = .ok (.nx ρ') S' ∨ (g x ρ S).bind (fun ρ1 S1 => b ρ1 S1) = .ok (.ct ρ') S') ∧ Pv (pre ++ [x]) ρ' S') ∨ ∃ v S', (g x ρ S).bind (fun ρ1 S1 => b ρ1 S1) = .ok (.rt v) S' ∧ Rt v S') :
    ∀ ρ S, Pv [] ρ S → (∃ ρ' S', mForGo g b xs ρ S = .ok (.nx ρ') S' ∧ Pv xs ρ' S') ∨ ∃ v S', mForGo g b xs ρ S = .ok (.rt v) S' ∧ Rt v S' := by
  have key : ∀ (post pre : List PV), xs = pre ++ post → ∀ ρ S, Pv pre ρ S → (∃ ρ' S', mForGo g b post ρ S = .ok (.nx ρ') S' ∧ Pv xs ρ' S') ∨ ∃ v S', mForGo g b post ρ S = .ok (.rt v) S' ∧ Rt v S' := by
    intro post
    induction post with
    | nil =>
      intro pre e ρ S hp
      rw [List.append_nil] at e
      exact .inl ⟨ρ, S, rfl, e ▸ hp⟩
    | cons x post ih =>
      intro pre e ρ S hp
      have un : ∀ o S', (g x ρ S).bind (fun ρ1 S1 => b ρ1 S1) = .ok o S' → mForGo g b (x :: post) ρ S = (match o with
          | .nx ρ2 => mForGo g b post ρ2 S'
          | .ct ρ2 => mForGo g b post ρ2 S'
          | .bk ρ2 => .ok (.nx ρ2) S'
          | .rt v => .ok (.rt v) S') := by
        intro o S' hb
        show ((g x ρ S).bind fun ρ1 S1 => (b ρ1 S1).bind _) = _
        cases eg : g x ρ S with
        | bad => rw [eg] at hb; cases hb
        | exc c fs S1 => rw [eg] at hb; cases hb
        | ok ρ1 S1 =>
          rw [eg] at hb
          show (b ρ1 S1).bind _ = _
          rw [show b ρ1 S1 = .ok o S' from hb]
          cases o <;> rfl
      rcases h pre x post ρ S e hp with ⟨ρ', S', hb, hp'⟩ | ⟨v, S', hb, hr⟩
      · have e2 : mForGo g b (x :: post) ρ S = mForGo g b post ρ' S' := by
          rcases hb with hb | hb
          · exact un _ _ hb
          · exact un _ _ hb
        rw [e2]
        exact ih (pre ++ [x]) (by rw [e, List.append_assoc]; rfl) ρ' S' hp'
      · exact .inr ⟨v, S', un _ _ hb, hr⟩
  intro ρ S hp
  exact key xs [] rfl ρ S hp
variable {t : Rho → Store → Res Bool} {a : Rho → Store → Res PV} {ρ : Rho}
/-- a comprehension whose items are told by a function -/
theorem lc_map {xs : List PV} {S : Store} (f : PV → PV) (h : ∀ x ∈ xs, ∃ ρ1, g x ρ S = .ok ρ1 S ∧ t ρ1 S = .ok true S ∧ a ρ1 S = .ok (f x) S) : mLcGo g t a ρ xs S = .ok (xs.map f) S := by
  induction xs with
  | nil => rfl
  | cons x xs ih =>
    obtain ⟨ρ1, h1, h2, h3⟩ := h x List.mem_cons_self
    have e := ih fun y hy => h y (List.mem_cons_of_mem _ hy)
    simp only [mLcGo, h1, h2, h3, Res.nox, Res.bind, e, if_pos, List.map_cons]
/-- .. with a test -/
theorem lc_filter {xs : List PV} {S : Store} (p : PV → Bool) (f : PV → PV) (h : ∀ x ∈ xs, ∃ ρ1, g x ρ S = .ok ρ1 S ∧ t ρ1 S = .ok (p x) S ∧ (p x = true → a ρ1 S = .ok (f x) S)) : mLcGo g t a ρ xs S = .ok ((xs.filter p).map f) S := by
  induction xs with
  | nil => rfl
  | cons x xs ih =>
    obtain ⟨ρ1, h1, h2, h3⟩ := h x List.mem_cons_self
    have e := ih fun y hy => h y (List.mem_cons_of_mem _ hy)
    cases hp : p x with
    | true => simp only [mLcGo, h1, h2, h3 hp, hp, Res.nox, Res.bind, e, if_pos, List.filter_cons, List.map_cons]
    | false => simp only [mLcGo, h1, h2, hp, Res.nox, Res.bind, e, List.filter_cons, Bool.false_eq_true, if_false]
/-- .. by an invariant over the store -/
theorem lc_inv {xs : List PV} (Pv : Store → Prop) (Yv : PV → PV → Prop) (h : ∀ x ∈ xs, ∀ S, Pv S → ∃ ρ1 y S', g x ρ S = .ok ρ1 S ∧ t ρ1 S = .ok true S ∧ a ρ1 S = .ok y S' ∧ Yv x y ∧ Pv S') :
    ∀ S, Pv S → ∃ ys S', mLcGo g t a ρ xs S = .ok ys S' ∧ Pv S' ∧ ys.length = xs.length ∧ ∀ (i : Nat) x y, xs[i]? = some x → ys[i]? = some y → Yv x y := by
  induction xs with
  | nil => intro S hp; exact ⟨[], S, rfl, hp, rfl, fun i x y e => by simp at e⟩
  | cons x xs ih =>
    intro S hp
    obtain ⟨ρ1, y, S1, h1, h2, h3, h4, h5⟩ := h x List.mem_cons_self S hp
    obtain ⟨ys, S2, e, h6, h7, h8⟩ := ih (fun z hz => h z (List.mem_cons_of_mem _ hz)) S1 h5
    refine ⟨y :: ys, S2, ?_, h6, by simp [h7], fun i x' y' e1 e2 => ?_⟩
    · simp only [mLcGo, h1, h2, h3, Res.nox, Res.bind, e, if_pos]
    · cases i with
      | zero => simp at e1 e2; subst e1 e2; exact h4
      | succ i => exact h8 i x' y' (by simpa using e1) (by simpa using e2)
end
/-! ### small facts -/
theorem small64_ok {i : Int} (h : -18446744073709551616 < i) (h2 : i < 18446744073709551616) : small64 i = true := by
  unfold small64 pow64
  simp only [Bool.and_eq_true, decide_eq_true_eq]
  exact ⟨h, h2⟩
theorem range62_ok {i : Int} (h : -4611686018427387904 ≤ i) (h2 : i < 4611686018427387904) : range62 i = true := by
  unfold range62
  simp only [Bool.and_eq_true, decide_eq_true_eq]
  exact ⟨h, h2⟩
theorem ixN_ok {n : Nat} {i : Int} (h : 0 ≤ i) (h2 : i < n) : ixN n i = some i.toNat := by
  unfold ixN
  rw [if_pos h, if_pos h2]
theorem atI_ok {α : Type} {xs : List α} {i : Int} (h : 0 ≤ i) (h2 : i < xs.length) : ∃ (hi : i.toNat < xs.length), atI xs i = some xs[i.toNat] := by
  have hi : i.toNat < xs.length := by omega
  refine ⟨hi, ?_⟩
  unfold atI
  rw [ixN_ok h h2]
  exact List.getElem?_eq_getElem hi
theorem atI_ints {ns : List Int} {i : Int} (h : 0 ≤ i) (h2 : i < ns.length) : ∃ v, atI (ns.map PV.int) i = some (.int v) ∧ v ∈ ns ∧ ns[i.toNat]? = some v := by
  obtain ⟨hi, e⟩ := atI_ok (xs := ns.map PV.int) h (by simpa using h2)
  have hi' : i.toNat < ns.length := by simpa using hi
  refine ⟨ns[i.toNat], ?_, List.getElem_mem hi', List.getElem?_eq_getElem hi'⟩
  rw [e]
  simp
theorem geA_int {i j : Int} {S : Store} : gGeA (.int i) (.int j) S = .ok (.bl (decide (j ≤ i))) S := nrfl rfl
theorem sizeM_eq : sizeM = 100000 := nrfl rfl
end Mir
set_option maxHeartbeats 4000000
/-! MirD: the draws that stand in every law. -/
namespace Mir
open PySem L2
def B_draws : Rho → Store → Res Out :=
  (mSeq (mSetOwn 2 (mLc (mSeqOf (mVar 0)) (gNm 5) mTrue (mArgs gAbs (mCons (mArgs gInt (mCons (mVar 5) mNil)) mNil)) [5]))
    (mSeq (mSetOwn 3 (mArgs gLst mNil))
    (mSeq (mFor (mRange gRange1 (mCons (mVar 1) mNil)) (gNm 4)
    (mSeq (mSet 5 (mVar 4))
    (mSeq (mIfS (mB (mOp gGt (mArgs gLen (mCons (mVar 0) mNil)) (mC (.int 0))))
    (mSeq (mSet 7 (mOp gMod (mVar 4) (mArgs gLen (mCons (mVar 0) mNil))))
    (mSeq (mSet 5 (mArgs gInt (mCons (mOp gIx (mVar 0) (mVar 7)) mNil)))
    (mIfS (mAnd (mB (mOp gGeA (mVar 5) (mOp gPow (mC (.int 10)) (mC (.int 18))))) (mB (mOp gGt (mIxOwn 2 (mVar 7)) (mC (.int 0)))))
    (mSeq (mAppend 3 (mOp gMod (mArgs gInt (mCons (mIxOwn 2 (mVar 7)) mNil)) (mC (.int 1000003))))
    (mSeq (mSetIx 2 (mVar 7) (mOp gFdiv (mArgs gInt (mCons (mIxOwn 2 (mVar 7)) mNil)) (mC (.int 1000003))))
    mCnt))
    mSkip)))
    mSkip)
    (mSeq (mSet 6 (mOp gMod (mArgs gInt (mCons (mOp gAddA (mOp gAddA (mOp gMulA (mVar 5) (mC (.int 48271))) (mOp gMulA (mVar 4) (mC (.int 69621)))) (mC (.int 11))) mNil)) (mC (.int 2147483647))))
    (mSeq (mSet 6 (mOp gMod (mArgs gInt (mCons (mOp gAddA (mOp gFdiv (mOp gMulA (mVar 6) (mVar 6)) (mC (.int 4096))) (mVar 6)) mNil)) (mC (.int 2147483629))))
    (mAppend 3 (mOp gMod (mArgs gInt (mCons (mOp gAddA (mOp gFdiv (mOp gMulA (mVar 6) (mVar 6)) (mC (.int 4096))) (mOp gMulA (mVar 4) (mC (.int 7919)))) mNil)) (mC (.int 2147483629)))))))))
    (mFrzS 2 (mRetOwn 3)))))
def B_take : Rho → Store → Res Out :=
  (mSeq (mSet 2 (mOp gIx (mVar 0) (mC (.int 1))))
    (mSeq (mSetIx 0 (mC (.int 1)) (mOp gAddA (mVar 2) (mC (.int 1))))
    (mSeq (mSet 3 (mOp gIx (mVar 0) (mC (.int 0))))
    (mSeq (mIfS (mB (mOp gGeA (mVar 2) (mArgs gLen (mCons (mVar 3) mNil))))
    (mRet (mC (.int 0)))
    mSkip)
    (mRet (mOp gMod (mOp gFdiv (mArgs gInt (mCons (mOp gIx (mVar 3) (mVar 2)) mNil)) (mC (.int 7))) (mVar 1)))))))

/-- a hand of draws stands first in the store -/
def Hand (S : Store) (R : Store) : Prop := ∃ (ds : List Int) (k : Int), S = .lst [.lst (ds.map PV.int), .int k] :: R ∧ 0 ≤ k ∧ ∀ d ∈ ds, 0 ≤ d

theorem take_ok {S R : Store} {many : Int} (h : Hand S R) (hm : 0 < many) : ∃ v S', mDef 4 B_take [.obj 0, .int many] S = .ok (.int v) S' ∧ Hand S' R ∧ 0 ≤ v ∧ v < many := by
  obtain ⟨ds, k, rfl, hk, hd⟩ := h
  have H' : Hand (.lst [.lst (ds.map PV.int), .int (k + 1)] :: R) R := ⟨ds, k + 1, rfl, by omega, hd⟩
  have i1 : ixN 2 1 = some 1 := rfl
  have a1 : ∀ (x y : PV), atI [x, y] 1 = some y := fun _ _ => rfl
  have a0 : ∀ (x y : PV), atI [x, y] 0 = some x := fun _ _ => rfl
  by_cases hlt : k < ds.length
  · obtain ⟨v, e, hv, _⟩ := atI_ints (ns := ds) hk hlt
    have v0 := hd v hv
    refine ⟨v / 7 % many, _, ?_, H', Int.emod_nonneg _ (by omega), Int.emod_lt_of_pos _ hm⟩
    show (B_take [.val (.obj 0), .val (.int many), .none, .none] _).bind toRet = _
    unfold B_take
    simp only [ev_bind, ev_nox, ev_seq, ev_set, ev_setOwn, ev_share, ev_drop, ev_ret, ev_retOwn, ev_skip, ev_brk, ev_cnt, ev_ifS, ev_frzS, ev_append, ev_setIx, ev_for, ev_lc, ev_seqOf, ev_range, ev_var, ev_c, ev_op, ev_un, ev_args, ev_nil, ev_cons, ev_frz, ev_b, ev_and, ev_or, ev_not, ev_andV, ev_orV, ev_notV, ev_if, ev_chain, ev_isi, ev_ixOwn, ev_lenOwn, ev_call, ev_callK, ev_sl, ev_part, ev_true, ev_nm, ev_toB, frz, frzAt, toSeq_tup, toSeq_lst, toSeq_cl, toRet, mWipe, kbG, Mir.gTup, Mir.gLst, List.getElem?_cons_zero, List.getElem?_cons_succ, List.set_cons_zero, List.set_cons_succ, List.length_cons, List.length_nil, List.append_nil, List.nil_append, List.cons_append, Nat.reduceAdd, Nat.reduceLeDiff, Nat.reduceEqDiff, Nat.zero_add, reduceIte, Bool.false_eq_true, Bool.not_true, Bool.not_false, and_self, sizeM_eq, gAddA, gAdd, gMulA, gMul, Mir.gSub, gFdiv, gMod, gLt, gLe, gGt, geA_int, gLen, gInt, gAbs, gNeg, gIx, a1, a0, setIxO, i1, List.length_map, e, decide_eq_true_eq, show ¬ ((ds.length : Int) ≤ k) by omega, decide_false, show (0 : Int) < 7 by decide, decide_true, show (7 : Int) < 1073741824 by decide, Bool.and_self, hm]
  · refine ⟨0, _, ?_, H', by omega, hm⟩
    show (B_take [.val (.obj 0), .val (.int many), .none, .none] _).bind toRet = _
    unfold B_take
    simp only [ev_bind, ev_nox, ev_seq, ev_set, ev_setOwn, ev_share, ev_drop, ev_ret, ev_retOwn, ev_skip, ev_brk, ev_cnt, ev_ifS, ev_frzS, ev_append, ev_setIx, ev_for, ev_lc, ev_seqOf, ev_range, ev_var, ev_c, ev_op, ev_un, ev_args, ev_nil, ev_cons, ev_frz, ev_b, ev_and, ev_or, ev_not, ev_andV, ev_orV, ev_notV, ev_if, ev_chain, ev_isi, ev_ixOwn, ev_lenOwn, ev_call, ev_callK, ev_sl, ev_part, ev_true, ev_nm, ev_toB, frz, frzAt, toSeq_tup, toSeq_lst, toSeq_cl, toRet, mWipe, kbG, Mir.gTup, Mir.gLst, List.getElem?_cons_zero, List.getElem?_cons_succ, List.set_cons_zero, List.set_cons_succ, List.length_cons, List.length_nil, List.append_nil, List.nil_append, List.cons_append, Nat.reduceAdd, Nat.reduceLeDiff, Nat.reduceEqDiff, Nat.zero_add, reduceIte, Bool.false_eq_true, Bool.not_true, Bool.not_false, and_self, sizeM_eq, gAddA, gAdd, gMulA, gMul, Mir.gSub, gFdiv, gMod, gLt, gLe, gGt, geA_int, gLen, gInt, gAbs, gNeg, gIx, a1, a0, setIxO, i1, List.length_map, decide_eq_true_eq, show ((ds.length : Int) ≤ k) by omega, decide_true]

theorem cat_map (ds : List Int) (v : Int) : ds.map PV.int ++ [.int v] = (ds ++ [v]).map PV.int := by simp
theorem set_map (ds : List Int) (i : Nat) (v : Int) : (ds.map PV.int).set i (.int v) = (ds.set i v).map PV.int := by simp
/-- the last rows of a draw's turn -/
def B_mix : Rho → Store → Res Out :=
  (mSeq (mSet 6 (mOp gMod (mArgs gInt (mCons (mOp gAddA (mOp gAddA (mOp gMulA (mVar 5) (mC (.int 48271))) (mOp gMulA (mVar 4) (mC (.int 69621)))) (mC (.int 11))) mNil)) (mC (.int 2147483647))))
    (mSeq (mSet 6 (mOp gMod (mArgs gInt (mCons (mOp gAddA (mOp gFdiv (mOp gMulA (mVar 6) (mVar 6)) (mC (.int 4096))) (mVar 6)) mNil)) (mC (.int 2147483629))))
    (mAppend 3 (mOp gMod (mArgs gInt (mCons (mOp gAddA (mOp gFdiv (mOp gMulA (mVar 6) (mVar 6)) (mC (.int 4096))) (mOp gMulA (mVar 4) (mC (.int 7919)))) mNil)) (mC (.int 2147483629))))))
theorem mix_ok {p0 p1 s2 s6 s7 : Slot} {ds : List Int} {k c : Int} {S : Store} (hz : ds.length < 100000) : ∃ d m, 0 ≤ d ∧ B_mix [p0, p1, s2, .own (.lst (ds.map PV.int)), .val (.int k), .val (.int c), s6, s7] S = .ok (.nx [p0, p1, s2, .own (.lst ((ds ++ [d]).map PV.int)), .val (.int k), .val (.int c), .val (.int m), s7]) S := by
  have w1 : small64 48271 = true := by decide
  have w2 : small64 69621 = true := by decide
  have w3 : small64 7919 = true := by decide
  have e1 := Int.emod_nonneg (c * 48271 + k * 69621 + 11) (show (2147483647 : Int) ≠ 0 by decide)
  have e2 := Int.emod_lt_of_pos (c * 48271 + k * 69621 + 11) (show (0 : Int) < 2147483647 by decide)
  generalize hA : (c * 48271 + k * 69621 + 11) % 2147483647 = A at e1 e2
  have f1 := Int.emod_nonneg (A * A / 4096 + A) (show (2147483629 : Int) ≠ 0 by decide)
  have f2 := Int.emod_lt_of_pos (A * A / 4096 + A) (show (0 : Int) < 2147483629 by decide)
  generalize hB : (A * A / 4096 + A) % 2147483629 = B at f1 f2
  have sA : small64 A = true := small64_ok (by omega) (by omega)
  have sB : small64 B = true := small64_ok (by omega) (by omega)
  refine ⟨(B * B / 4096 + k * 7919) % 2147483629, B, Int.emod_nonneg _ (by decide), ?_⟩
  unfold B_mix
  simp only [ev_bind, ev_nox, ev_seq, ev_set, ev_setOwn, ev_share, ev_drop, ev_ret, ev_retOwn, ev_skip, ev_brk, ev_cnt, ev_ifS, ev_frzS, ev_append, ev_setIx, ev_for, ev_lc, ev_seqOf, ev_range, ev_var, ev_c, ev_op, ev_un, ev_args, ev_nil, ev_cons, ev_frz, ev_b, ev_and, ev_or, ev_not, ev_andV, ev_orV, ev_notV, ev_if, ev_chain, ev_isi, ev_ixOwn, ev_lenOwn, ev_call, ev_callK, ev_sl, ev_part, ev_true, ev_nm, ev_toB, frz, frzAt, toSeq_tup, toSeq_lst, toSeq_cl, toRet, mWipe, kbG, Mir.gTup, Mir.gLst, List.getElem?_cons_zero, List.getElem?_cons_succ, List.set_cons_zero, List.set_cons_succ, List.length_cons, List.length_nil, List.append_nil, List.nil_append, List.cons_append, Nat.reduceAdd, Nat.reduceLeDiff, Nat.reduceEqDiff, Nat.zero_add, reduceIte, Bool.false_eq_true, Bool.not_true, Bool.not_false, and_self, sizeM_eq, gAddA, gAdd, gMulA, gMul, Mir.gSub, gFdiv, gMod, gLt, gLe, gGt, geA_int, gLen, gInt, gAbs, gNeg, w1, w2, w3, Bool.or_true, hA, sA, hB, sB, show (0 : Int) < 2147483647 by decide, show (0 : Int) < 2147483629 by decide, show (0 : Int) < 4096 by decide, show (4096 : Int) < 1073741824 by decide, decide_true, Bool.and_self, Bool.true_or, List.length_map, hz, cat_map]
def B_turn : Rho → Store → Res Out :=
  (mSeq (mSet 5 (mVar 4))
    (mSeq (mIfS (mB (mOp gGt (mArgs gLen (mCons (mVar 0) mNil)) (mC (.int 0))))
    (mSeq (mSet 7 (mOp gMod (mVar 4) (mArgs gLen (mCons (mVar 0) mNil))))
    (mSeq (mSet 5 (mArgs gInt (mCons (mOp gIx (mVar 0) (mVar 7)) mNil)))
    (mIfS (mAnd (mB (mOp gGeA (mVar 5) (mOp gPow (mC (.int 10)) (mC (.int 18))))) (mB (mOp gGt (mIxOwn 2 (mVar 7)) (mC (.int 0)))))
    (mSeq (mAppend 3 (mOp gMod (mArgs gInt (mCons (mIxOwn 2 (mVar 7)) mNil)) (mC (.int 1000003))))
    (mSeq (mSetIx 2 (mVar 7) (mOp gFdiv (mArgs gInt (mCons (mIxOwn 2 (mVar 7)) mNil)) (mC (.int 1000003))))
    mCnt))
    mSkip)))
    mSkip)
    B_mix))
/-- what stands between two turns -/
def DrawInv (ns : List Int) (n : Nat) (S : Store) (pre : List PV) (ρ : Rho) (S' : Store) : Prop := ∃ (rs ds : List Int) (s4 s5 s6 s7 : Slot), ρ = [.val (.cl (ns.map PV.int)), .val (.int n), .own (.lst (rs.map PV.int)), .own (.lst (ds.map PV.int)), s4, s5, s6, s7] ∧ S' = S ∧ rs.length = ns.length ∧ ds.length = pre.length ∧ ∀ d ∈ ds, 0 ≤ d
theorem turn_ok {ns : List Int} {n : Nat} (hn : n ≤ 90000) {S S' : Store} {pre post : List PV} {x : PV} {ρ : Rho} (ex : (List.range n).map (fun (k : Nat) => PV.int (k : Int)) = pre ++ x :: post) (h : DrawInv ns n S pre ρ S') :
    ∃ ρ' S2, ((gNm 4 x ρ S').bind (fun ρ1 S1 => B_turn ρ1 S1) = .ok (.nx ρ') S2 ∨ (gNm 4 x ρ S').bind (fun ρ1 S1 => B_turn ρ1 S1) = .ok (.ct ρ') S2) ∧ DrawInv ns n S (pre ++ [x]) ρ' S2 := by
    obtain ⟨rs, ds, s4, s5, s6, s7, rfl, rfl, hr, hd, h0⟩ := h
    have hx : ∃ k : Nat, x = .int k := by
      have : x ∈ (List.range n).map fun (k : Nat) => PV.int (k : Int) := by rw [ex]; simp
      obtain ⟨k, _, rfl⟩ := List.mem_map.mp this
      exact ⟨k, rfl⟩
    obtain ⟨k, rfl⟩ := hx
    have hlen : pre.length < n := by
      have := congrArg List.length ex
      simp at this; omega
    have hz : ds.length < 100000 := by omega
    have add0 : ∀ v : Int, 0 ≤ v → ∀ d ∈ ds ++ [v], 0 ≤ d := fun v hv d hd => by
      rcases List.mem_append.mp hd with h | h
      · exact h0 d h
      · rw [List.mem_singleton.mp h]; exact hv
    by_cases he : ns.length = 0
    · obtain ⟨d, m, h1, h2⟩ := mix_ok (p0 := .val (.cl (ns.map PV.int))) (p1 := .val (.int n)) (s2 := .own (.lst (rs.map PV.int))) (s6 := s6) (s7 := s7) (k := (k : Int)) (c := (k : Int)) (S := S') hz
      refine ⟨_, S', .inl ?_, rs, ds ++ [d], .val (.int k), .val (.int k), .val (.int m), s7, rfl, rfl, hr, by simp [hd], add0 d h1⟩
      unfold B_turn
      simp only [ev_bind, ev_nox, ev_seq, ev_set, ev_setOwn, ev_share, ev_drop, ev_ret, ev_retOwn, ev_skip, ev_brk, ev_cnt, ev_ifS, ev_frzS, ev_append, ev_setIx, ev_for, ev_lc, ev_seqOf, ev_range, ev_var, ev_c, ev_op, ev_un, ev_args, ev_nil, ev_cons, ev_frz, ev_b, ev_and, ev_or, ev_not, ev_andV, ev_orV, ev_notV, ev_if, ev_chain, ev_isi, ev_ixOwn, ev_lenOwn, ev_call, ev_callK, ev_sl, ev_part, ev_true, ev_nm, ev_toB, frz, frzAt, toSeq_tup, toSeq_lst, toSeq_cl, toRet, mWipe, kbG, Mir.gTup, Mir.gLst, List.getElem?_cons_zero, List.getElem?_cons_succ, List.set_cons_zero, List.set_cons_succ, List.length_cons, List.length_nil, List.append_nil, List.nil_append, List.cons_append, Nat.reduceAdd, Nat.reduceLeDiff, Nat.reduceEqDiff, Nat.zero_add, reduceIte, Bool.false_eq_true, Bool.not_true, Bool.not_false, and_self, sizeM_eq, gAddA, gAdd, gMulA, gMul, Mir.gSub, gFdiv, gMod, gLt, gLe, gGt, geA_int, gLen, gInt, gAbs, gNeg, List.length_map, decide_eq_true_eq, show ¬ (0 : Int) < (ns.length : Int) by omega, decide_false, h2]
    · have hpos : (0 : Int) < ns.length := by omega
      have m1 := Int.emod_nonneg (k : Int) (show (ns.length : Int) ≠ 0 by omega)
      have m2 := Int.emod_lt_of_pos (k : Int) hpos
      generalize hA : (k : Int) % (ns.length : Int) = A at m1 m2
      obtain ⟨c, e1, _, _⟩ := atI_ints (ns := ns) m1 m2
      obtain ⟨r, e2, _, _⟩ := atI_ints (ns := rs) m1 (by omega)
      have p18 : cpow 10 18 = true := by decide
      have ix : ixN rs.length A = some A.toNat := ixN_ok m1 (by omega)
      obtain ⟨d, m, h1, h2⟩ := mix_ok (p0 := .val (.cl (ns.map PV.int))) (p1 := .val (.int n)) (s2 := .own (.lst (rs.map PV.int))) (s6 := s6) (s7 := .val (.int A)) (k := (k : Int)) (c := c) (S := S') hz
      by_cases hc : (10 : Int) ^ (18 : Int).toNat ≤ c
      · by_cases hr0 : 0 < r
        · refine ⟨_, S', .inr ?_, rs.set A.toNat (r / 1000003), ds ++ [r % 1000003], .val (.int k), .val (.int c), s6, .val (.int A), rfl, rfl, by simp [hr], by simp [hd], add0 _ (Int.emod_nonneg _ (by decide))⟩
          unfold B_turn
          simp only [ev_bind, ev_nox, ev_seq, ev_set, ev_setOwn, ev_share, ev_drop, ev_ret, ev_retOwn, ev_skip, ev_brk, ev_cnt, ev_ifS, ev_frzS, ev_append, ev_setIx, ev_for, ev_lc, ev_seqOf, ev_range, ev_var, ev_c, ev_op, ev_un, ev_args, ev_nil, ev_cons, ev_frz, ev_b, ev_and, ev_or, ev_not, ev_andV, ev_orV, ev_notV, ev_if, ev_chain, ev_isi, ev_ixOwn, ev_lenOwn, ev_call, ev_callK, ev_sl, ev_part, ev_true, ev_nm, ev_toB, frz, frzAt, toSeq_tup, toSeq_lst, toSeq_cl, toRet, mWipe, kbG, Mir.gTup, Mir.gLst, List.getElem?_cons_zero, List.getElem?_cons_succ, List.set_cons_zero, List.set_cons_succ, List.length_cons, List.length_nil, List.append_nil, List.nil_append, List.cons_append, Nat.reduceAdd, Nat.reduceLeDiff, Nat.reduceEqDiff, Nat.zero_add, reduceIte, Bool.false_eq_true, Bool.not_true, Bool.not_false, and_self, sizeM_eq, gAddA, gAdd, gMulA, gMul, Mir.gSub, gFdiv, gMod, gLt, gLe, gGt, geA_int, gLen, gInt, gAbs, gNeg, gIx, gPow, p18, setIx, ix, List.length_map, decide_eq_true_eq, hpos, decide_true, hA, e1, e2, hc, hr0, show (0 : Int) < 1000003 by decide, show (1000003 : Int) < 1073741824 by decide, Bool.and_self, hz, cat_map, set_map]
        · refine ⟨_, S', .inl ?_, rs, ds ++ [d], .val (.int k), .val (.int c), .val (.int m), .val (.int A), rfl, rfl, hr, by simp [hd], add0 d h1⟩
          unfold B_turn
          simp only [ev_bind, ev_nox, ev_seq, ev_set, ev_setOwn, ev_share, ev_drop, ev_ret, ev_retOwn, ev_skip, ev_brk, ev_cnt, ev_ifS, ev_frzS, ev_append, ev_setIx, ev_for, ev_lc, ev_seqOf, ev_range, ev_var, ev_c, ev_op, ev_un, ev_args, ev_nil, ev_cons, ev_frz, ev_b, ev_and, ev_or, ev_not, ev_andV, ev_orV, ev_notV, ev_if, ev_chain, ev_isi, ev_ixOwn, ev_lenOwn, ev_call, ev_callK, ev_sl, ev_part, ev_true, ev_nm, ev_toB, frz, frzAt, toSeq_tup, toSeq_lst, toSeq_cl, toRet, mWipe, kbG, Mir.gTup, Mir.gLst, List.getElem?_cons_zero, List.getElem?_cons_succ, List.set_cons_zero, List.set_cons_succ, List.length_cons, List.length_nil, List.append_nil, List.nil_append, List.cons_append, Nat.reduceAdd, Nat.reduceLeDiff, Nat.reduceEqDiff, Nat.zero_add, reduceIte, Bool.false_eq_true, Bool.not_true, Bool.not_false, and_self, sizeM_eq, gAddA, gAdd, gMulA, gMul, Mir.gSub, gFdiv, gMod, gLt, gLe, gGt, geA_int, gLen, gInt, gAbs, gNeg, gIx, gPow, p18, List.length_map, decide_eq_true_eq, hpos, decide_true, hA, e1, e2, hc, hr0, decide_false, h2]
      · refine ⟨_, S', .inl ?_, rs, ds ++ [d], .val (.int k), .val (.int c), .val (.int m), .val (.int A), rfl, rfl, hr, by simp [hd], add0 d h1⟩
        unfold B_turn
        simp only [ev_bind, ev_nox, ev_seq, ev_set, ev_setOwn, ev_share, ev_drop, ev_ret, ev_retOwn, ev_skip, ev_brk, ev_cnt, ev_ifS, ev_frzS, ev_append, ev_setIx, ev_for, ev_lc, ev_seqOf, ev_range, ev_var, ev_c, ev_op, ev_un, ev_args, ev_nil, ev_cons, ev_frz, ev_b, ev_and, ev_or, ev_not, ev_andV, ev_orV, ev_notV, ev_if, ev_chain, ev_isi, ev_ixOwn, ev_lenOwn, ev_call, ev_callK, ev_sl, ev_part, ev_true, ev_nm, ev_toB, frz, frzAt, toSeq_tup, toSeq_lst, toSeq_cl, toRet, mWipe, kbG, Mir.gTup, Mir.gLst, List.getElem?_cons_zero, List.getElem?_cons_succ, List.set_cons_zero, List.set_cons_succ, List.length_cons, List.length_nil, List.append_nil, List.nil_append, List.cons_append, Nat.reduceAdd, Nat.reduceLeDiff, Nat.reduceEqDiff, Nat.zero_add, reduceIte, Bool.false_eq_true, Bool.not_true, Bool.not_false, and_self, sizeM_eq, gAddA, gAdd, gMulA, gMul, Mir.gSub, gFdiv, gMod, gLt, gLe, gGt, geA_int, gLen, gInt, gAbs, gNeg, gIx, gPow, p18, List.length_map, decide_eq_true_eq, hpos, decide_true, hA, e1, e2, hc, decide_false, h2]
theorem draws_ok {ns : List Int} {n : Nat} (hn : n ≤ 90000) (hl : ns.length ≤ 1000) (S : Store) : ∃ ds : List Int, ds.length = n ∧ (∀ d ∈ ds, 0 ≤ d) ∧ mDef 8 B_draws [.cl (ns.map PV.int), .int n] S = .ok (.lst (ds.map PV.int)) S := by
  have lc : mLcGo (gNm 5) mTrue (mArgs gAbs (mCons (mArgs gInt (mCons (mVar 5) mNil)) mNil)) [.val (.cl (ns.map PV.int)), .val (.int n), .none, .none, .none, .none, .none, .none] (ns.map PV.int) S = .ok ((ns.map fun i => if i < 0 then -i else i).map PV.int) S := by
    have := lc_map (g := gNm 5) (t := mTrue) (a := mArgs gAbs (mCons (mArgs gInt (mCons (mVar 5) mNil)) mNil)) (ρ := [.val (.cl (ns.map PV.int)), .val (.int n), .none, .none, .none, .none, .none, .none]) (S := S) (xs := ns.map PV.int)
      (fun x => match x with | .int i => .int (if i < 0 then -i else i) | x => x) fun x hx => by
        obtain ⟨i, _, rfl⟩ := List.mem_map.mp hx
        exact ⟨_, rfl, rfl, rfl⟩
    rw [this, List.map_map, List.map_map]
    rfl
  obtain ⟨ρ', S', e, rs, ds, s4, s5, s6, s7, rfl, rfl, hr, hd, h0⟩ := for_inv (g := gNm 4) (b := B_turn) (xs := (List.range n).map fun (k : Nat) => PV.int (k : Int)) (DrawInv ns n S) (fun pre x post ρ S' ex h => turn_ok hn ex h) [.val (.cl (ns.map PV.int)), .val (.int n), .own (.lst ((ns.map fun i => if i < 0 then -i else i).map PV.int)), .own (.lst []), .none, .none, .none, .none] S ⟨_, [], _, _, _, _, rfl, rfl, by simp, rfl, fun d h => nomatch h⟩
  refine ⟨ds, by simpa using hd, h0, ?_⟩
  show (B_draws [.val (.cl (ns.map PV.int)), .val (.int n), .none, .none, .none, .none, .none, .none] _).bind toRet = _
  have r62 : range62 (n : Int) = true := range62_ok (by omega) (by omega)
  unfold B_draws
  simp only [ev_bind, ev_nox, ev_seq, ev_set, ev_setOwn, ev_share, ev_drop, ev_ret, ev_retOwn, ev_skip, ev_brk, ev_cnt, ev_ifS, ev_frzS, ev_append, ev_setIx, ev_for, ev_lc, ev_seqOf, ev_range, ev_var, ev_c, ev_op, ev_un, ev_args, ev_nil, ev_cons, ev_frz, ev_b, ev_and, ev_or, ev_not, ev_andV, ev_orV, ev_notV, ev_if, ev_chain, ev_isi, ev_ixOwn, ev_lenOwn, ev_call, ev_callK, ev_sl, ev_part, ev_true, ev_nm, ev_toB, frz, frzAt, toSeq_tup, toSeq_lst, toSeq_cl, toRet, mWipe, kbG, Mir.gTup, Mir.gLst, List.getElem?_cons_zero, List.getElem?_cons_succ, List.set_cons_zero, List.set_cons_succ, List.length_cons, List.length_nil, List.append_nil, List.nil_append, List.cons_append, Nat.reduceAdd, Nat.reduceLeDiff, Nat.reduceEqDiff, Nat.zero_add, reduceIte, Bool.false_eq_true, Bool.not_true, Bool.not_false, and_self, sizeM_eq, lc, List.length_map, show ns.length ≤ 100000 by omega, gRange1, r62, Int.toNat_natCast]
  unfold B_turn B_mix at e
  rw [e]
  simp only [ev_bind, ev_nox, ev_seq, ev_set, ev_setOwn, ev_share, ev_drop, ev_ret, ev_retOwn, ev_skip, ev_brk, ev_cnt, ev_ifS, ev_frzS, ev_append, ev_setIx, ev_for, ev_lc, ev_seqOf, ev_range, ev_var, ev_c, ev_op, ev_un, ev_args, ev_nil, ev_cons, ev_frz, ev_b, ev_and, ev_or, ev_not, ev_andV, ev_orV, ev_notV, ev_if, ev_chain, ev_isi, ev_ixOwn, ev_lenOwn, ev_call, ev_callK, ev_sl, ev_part, ev_true, ev_nm, ev_toB, frz, frzAt, toSeq_tup, toSeq_lst, toSeq_cl, toRet, mWipe, kbG, Mir.gTup, Mir.gLst, List.getElem?_cons_zero, List.getElem?_cons_succ, List.set_cons_zero, List.set_cons_succ, List.length_cons, List.length_nil, List.append_nil, List.nil_append, List.cons_append, Nat.reduceAdd, Nat.reduceLeDiff, Nat.reduceEqDiff, Nat.zero_add, reduceIte, Bool.false_eq_true, Bool.not_true, Bool.not_false, and_self, sizeM_eq]
end Mir
set_option maxHeartbeats 4000000
/-! MirE: rows of values, their texts. -/
namespace Mir
open PySem L2
/-- a row -/
def rowP (r : List Int) : PV := .tup (r.map PV.int)
def Bits (r : List Int) : Prop := ∀ b ∈ r, b = 0 ∨ b = 1
/-- all rows of n values, ascending -/
def rowsE : Nat → List (List Int)
  | 0 => [[]]
  | n + 1 => (rowsE n).flatMap fun r => [r ++ [0], r ++ [1]]
theorem rowsE_len : ∀ n, (rowsE n).length = 2 ^ n
  | 0 => rfl
  | n + 1 => by
    have h := rowsE_len n
    have e : ∀ l : List (List Int), (l.flatMap fun r => [r ++ [0], r ++ [1]]).length = 2 * l.length := fun l => by
      induction l with
      | nil => rfl
      | cons x l ih => rw [List.flatMap_cons, List.length_append, ih]; simp; omega
    show ((rowsE n).flatMap _).length = _
    rw [e, h, Nat.pow_succ, Nat.mul_comm]
theorem rowsE_mem : ∀ {n} {r : List Int}, r ∈ rowsE n → r.length = n ∧ Bits r
  | 0, r, h => by
    have e : r = [] := by simpa [rowsE] using h
    subst e
    exact ⟨rfl, fun b h => nomatch h⟩
  | n + 1, r, h => by
    obtain ⟨r', h1, h2⟩ := List.mem_flatMap.mp (show r ∈ (rowsE n).flatMap fun r => [r ++ [0], r ++ [1]] from h)
    obtain ⟨h3, h4⟩ := rowsE_mem h1
    have h2' : r = r' ++ [0] ∨ r = r' ++ [1] := by simpa using h2
    have key : ∀ v : Int, (v = 0 ∨ v = 1) → Bits (r' ++ [v]) := fun v hv b hb => by
      rcases List.mem_append.mp hb with hb | hb
      · exact h4 b hb
      · rw [List.mem_singleton.mp hb]; exact hv
    rcases h2' with rfl | rfl
    · exact ⟨by simp [h3], key 0 (.inl rfl)⟩
    · exact ⟨by simp [h3], key 1 (.inr rfl)⟩
def B_longer : Rho → Store → Res Out :=
  (mSet 3 (mOp gAddA (mVar 3) (mFrz (mArgs gLst (mCons (mOp gAddA (mVar 4) (mArgs gTup (mCons (mC (.int 0)) mNil))) (mCons (mOp gAddA (mVar 4) (mArgs gTup (mCons (mC (.int 1)) mNil))) mNil))))))
def B_everyT : Rho → Store → Res Out :=
  (mSeq (mSet 3 (mFrz (mArgs gLst mNil)))
    (mSeq (mFor (mSeqOf (mVar 1)) (gNm 4)
    B_longer)
    (mSet 1 (mVar 3))))
def B_every : Rho → Store → Res Out :=
  (mSeq (mSet 1 (mFrz (mArgs gLst (mCons (mArgs gTup mNil) mNil))))
    (mSeq (mFor (mRange gRange1 (mCons (mVar 0) mNil)) (gNm 2)
    B_everyT)
    (mRet (mVar 1))))
theorem longer_ok {p0 p1 s2 s4 : Slot} {S : Store} {rs : List (List Int)} (hr : ∀ r ∈ rs, r.length ≤ 1000) (hz : 2 * rs.length ≤ 90000) :
    ∃ s4', mForGo (gNm 4) B_longer (rs.map rowP) [p0, p1, s2, .val (.lst []), s4] S = .ok (.nx [p0, p1, s2, .val (.lst ((rs.flatMap fun r => [r ++ [0], r ++ [1]]).map rowP)), s4']) S := by
  obtain ⟨ρ', S', e, L, s, hL, rfl, rfl⟩ := for_inv (g := gNm 4) (b := B_longer) (xs := rs.map rowP) (fun pre ρ S' => ∃ (L : List (List Int)) (s : Slot), pre = L.map rowP ∧ S' = S ∧ ρ = [p0, p1, s2, .val (.lst ((L.flatMap fun r => [r ++ [0], r ++ [1]]).map rowP)), s]) (by
    rintro pre x post ρ S' ex ⟨L, s, rfl, rfl, rfl⟩
    have hx : x ∈ rs.map rowP := by rw [ex]; simp
    obtain ⟨r, hr1, rfl⟩ := List.mem_map.mp hx
    have hl := hr r hr1
    have hlen : L.length < rs.length := by
      have := congrArg List.length ex
      simp at this; omega
    have el : ∀ l : List (List Int), (l.flatMap fun r => [r ++ [0], r ++ [1]]).length = 2 * l.length := fun l => by
      induction l with
      | nil => rfl
      | cons x l ih => rw [List.flatMap_cons, List.length_append, ih]; simp; omega
    refine ⟨_, S', .inl ?_, L ++ [r], .val (rowP r), by simp, rfl, rfl⟩
    unfold B_longer
    rw [List.flatMap_append, List.map_append]
    simp only [ev_bind, ev_nox, ev_seq, ev_set, ev_setOwn, ev_share, ev_drop, ev_ret, ev_retOwn, ev_skip, ev_brk, ev_cnt, ev_ifS, ev_frzS, ev_append, ev_setIx, ev_for, ev_lc, ev_seqOf, ev_range, ev_var, ev_c, ev_op, ev_un, ev_args, ev_nil, ev_cons, ev_frz, ev_b, ev_and, ev_or, ev_not, ev_andV, ev_orV, ev_notV, ev_if, ev_chain, ev_isi, ev_ixOwn, ev_lenOwn, ev_call, ev_callK, ev_sl, ev_part, ev_true, ev_nm, ev_toB, frz, frzAt, toSeq_tup, toSeq_lst, toSeq_cl, toRet, mWipe, kbG, Mir.gTup, Mir.gLst, List.getElem?_cons_zero, List.getElem?_cons_succ, List.set_cons_zero, List.set_cons_succ, List.length_cons, List.length_nil, List.append_nil, List.nil_append, List.cons_append, Nat.reduceAdd, Nat.reduceLeDiff, Nat.reduceEqDiff, Nat.zero_add, reduceIte, Bool.false_eq_true, Bool.not_true, Bool.not_false, and_self, sizeM_eq, gAddA, gAdd, gMulA, gMul, Mir.gSub, gFdiv, gMod, gLt, gLe, gGt, geA_int, gLen, gInt, gAbs, gNeg, rowP, List.length_map, show r.length + 1 ≤ 100000 by omega, el, show 2 * L.length + 2 ≤ 100000 by omega, List.flatMap_cons, List.flatMap_nil, List.map_cons, List.map_nil, List.map_append]) [p0, p1, s2, .val (.lst []), s4] S ⟨[], s4, rfl, rfl, rfl⟩
  have hL' : L = rs := by
    have inj : ∀ a b : List Int, rowP a = rowP b → a = b := fun a b h => by
      have h' : a.map PV.int = b.map PV.int := by
        unfold rowP at h; exact PV.tup.inj h
      exact List.map_inj_right (f := PV.int) (fun x y h => PV.int.inj h) |>.mp h'
    exact (List.map_inj_right (f := rowP) (fun x y h => inj x y h)).mp hL.symm
  subst hL'
  exact ⟨s, e⟩
theorem every_ok {n : Nat} (hn : n ≤ 15) (S : Store) : mDef 5 B_every [.int n] S = .ok (.lst ((rowsE n).map rowP)) S := by
  have pw : ∀ k : Nat, k ≤ 15 → 2 ^ k ≤ 32768 := fun k hk => by
    have : (2 : Nat) ^ k ≤ 2 ^ 15 := Nat.pow_le_pow_right (by decide) hk
    exact this
  obtain ⟨ρ', S', e, s2, s3, s4, rfl, rfl⟩ := for_inv (g := gNm 2) (b := B_everyT) (xs := (List.range n).map fun (k : Nat) => PV.int (k : Int)) (fun pre ρ S' => ∃ s2 s3 s4, S' = S ∧ ρ = [.val (.int n), .val (.lst ((rowsE pre.length).map rowP)), s2, s3, s4]) (by
    rintro pre x post ρ S' ex ⟨s2, s3, s4, rfl, rfl⟩
    have hlen : pre.length < n := by
      have := congrArg List.length ex
      simp at this; omega
    obtain ⟨s4', e⟩ := longer_ok (p0 := .val (.int n)) (p1 := .val (.lst ((rowsE pre.length).map rowP))) (s2 := .val x) (s4 := s4) (S := S') (rs := rowsE pre.length) (fun r hr => by have := (rowsE_mem hr).1; omega) (by rw [rowsE_len]; have := pw pre.length (by omega); omega)
    refine ⟨_, S', .inl ?_, .val x, .val (.lst ((rowsE (pre ++ [x]).length).map rowP)), s4', rfl, rfl⟩
    have el : (pre ++ [x]).length = pre.length + 1 := by simp
    rw [el]
    unfold B_everyT
    simp only [ev_bind, ev_nox, ev_seq, ev_set, ev_setOwn, ev_share, ev_drop, ev_ret, ev_retOwn, ev_skip, ev_brk, ev_cnt, ev_ifS, ev_frzS, ev_append, ev_setIx, ev_for, ev_lc, ev_seqOf, ev_range, ev_var, ev_c, ev_op, ev_un, ev_args, ev_nil, ev_cons, ev_frz, ev_b, ev_and, ev_or, ev_not, ev_andV, ev_orV, ev_notV, ev_if, ev_chain, ev_isi, ev_ixOwn, ev_lenOwn, ev_call, ev_callK, ev_sl, ev_part, ev_true, ev_nm, ev_toB, frz, frzAt, toSeq_tup, toSeq_lst, toSeq_cl, toRet, mWipe, kbG, Mir.gTup, Mir.gLst, List.getElem?_cons_zero, List.getElem?_cons_succ, List.set_cons_zero, List.set_cons_succ, List.length_cons, List.length_nil, List.append_nil, List.nil_append, List.cons_append, Nat.reduceAdd, Nat.reduceLeDiff, Nat.reduceEqDiff, Nat.zero_add, reduceIte, Bool.false_eq_true, Bool.not_true, Bool.not_false, and_self, sizeM_eq, gAddA, gAdd, gMulA, gMul, Mir.gSub, gFdiv, gMod, gLt, gLe, gGt, geA_int, gLen, gInt, gAbs, gNeg, e]
    rfl) [.val (.int n), .val (.lst ([[]].map rowP)), .none, .none, .none] S ⟨_, _, _, rfl, rfl⟩
  show (B_every [.val (.int n), .none, .none, .none, .none] _).bind toRet = _
  have r62 : range62 (n : Int) = true := range62_ok (by omega) (by omega)
  unfold B_every
  simp only [ev_bind, ev_nox, ev_seq, ev_set, ev_setOwn, ev_share, ev_drop, ev_ret, ev_retOwn, ev_skip, ev_brk, ev_cnt, ev_ifS, ev_frzS, ev_append, ev_setIx, ev_for, ev_lc, ev_seqOf, ev_range, ev_var, ev_c, ev_op, ev_un, ev_args, ev_nil, ev_cons, ev_frz, ev_b, ev_and, ev_or, ev_not, ev_andV, ev_orV, ev_notV, ev_if, ev_chain, ev_isi, ev_ixOwn, ev_lenOwn, ev_call, ev_callK, ev_sl, ev_part, ev_true, ev_nm, ev_toB, frz, frzAt, toSeq_tup, toSeq_lst, toSeq_cl, toRet, mWipe, kbG, Mir.gTup, Mir.gLst, List.getElem?_cons_zero, List.getElem?_cons_succ, List.set_cons_zero, List.set_cons_succ, List.length_cons, List.length_nil, List.append_nil, List.nil_append, List.cons_append, Nat.reduceAdd, Nat.reduceLeDiff, Nat.reduceEqDiff, Nat.zero_add, reduceIte, Bool.false_eq_true, Bool.not_true, Bool.not_false, and_self, sizeM_eq, gRange1, r62, Int.toNat_natCast]
  rw [show ((.val (.lst [.tup []]) : Slot)) = .val (.lst ([[]].map rowP)) from rfl, e]
  simp only [ev_bind, ev_nox, ev_seq, ev_set, ev_setOwn, ev_share, ev_drop, ev_ret, ev_retOwn, ev_skip, ev_brk, ev_cnt, ev_ifS, ev_frzS, ev_append, ev_setIx, ev_for, ev_lc, ev_seqOf, ev_range, ev_var, ev_c, ev_op, ev_un, ev_args, ev_nil, ev_cons, ev_frz, ev_b, ev_and, ev_or, ev_not, ev_andV, ev_orV, ev_notV, ev_if, ev_chain, ev_isi, ev_ixOwn, ev_lenOwn, ev_call, ev_callK, ev_sl, ev_part, ev_true, ev_nm, ev_toB, frz, frzAt, toSeq_tup, toSeq_lst, toSeq_cl, toRet, mWipe, kbG, Mir.gTup, Mir.gLst, List.getElem?_cons_zero, List.getElem?_cons_succ, List.set_cons_zero, List.set_cons_succ, List.length_cons, List.length_nil, List.append_nil, List.nil_append, List.cons_append, Nat.reduceAdd, Nat.reduceLeDiff, Nat.reduceEqDiff, Nat.zero_add, reduceIte, Bool.false_eq_true, Bool.not_true, Bool.not_false, and_self, sizeM_eq, List.length_map, List.length_range]
/-! the number that a row tells -/
def numOf (r : List Int) : Int := r.foldl (fun n b => 2 * n + b) 0
def B_place : Rho → Store → Res Out :=
  (mSeq (mSet 1 (mC (.int 0)))
    (mSeq (mFor (mSeqOf (mVar 0)) (gNm 2)
    (mSet 1 (mOp gAddA (mOp gMulA (mC (.int 2)) (mVar 1)) (mVar 2))))
    (mRet (mVar 1))))
theorem place_ok {x : PV} {r : List Int} {S : Store} (hx : toSeq x S = .ok (r.map PV.int) S) : mDef 3 B_place [x] S = .ok (.int (numOf r)) S := by
  have s2 : small64 2 = true := by decide
  have key : ∀ (r : List Int) (n : Int) (s : Slot), ∃ s', mForGo (gNm 2) (mSet 1 (mOp gAddA (mOp gMulA (mC (.int 2)) (mVar 1)) (mVar 2))) (r.map PV.int) [.val x, .val (.int n), s] S = .ok (.nx [.val x, .val (.int (r.foldl (fun n b => 2 * n + b) n)), s']) S := by
    intro r
    induction r with
    | nil => intro n s; exact ⟨s, rfl⟩
    | cons b r ih =>
      intro n s
      obtain ⟨s', e⟩ := ih (2 * n + b) (.val (.int b))
      refine ⟨s', ?_⟩
      rw [List.map_cons, mForGo]
      simp only [ev_bind, ev_nox, ev_seq, ev_set, ev_setOwn, ev_share, ev_drop, ev_ret, ev_retOwn, ev_skip, ev_brk, ev_cnt, ev_ifS, ev_frzS, ev_append, ev_setIx, ev_for, ev_lc, ev_seqOf, ev_range, ev_var, ev_c, ev_op, ev_un, ev_args, ev_nil, ev_cons, ev_frz, ev_b, ev_and, ev_or, ev_not, ev_andV, ev_orV, ev_notV, ev_if, ev_chain, ev_isi, ev_ixOwn, ev_lenOwn, ev_call, ev_callK, ev_sl, ev_part, ev_true, ev_nm, ev_toB, frz, frzAt, toSeq_tup, toSeq_lst, toSeq_cl, toRet, mWipe, kbG, Mir.gTup, Mir.gLst, List.getElem?_cons_zero, List.getElem?_cons_succ, List.set_cons_zero, List.set_cons_succ, List.length_cons, List.length_nil, List.append_nil, List.nil_append, List.cons_append, Nat.reduceAdd, Nat.reduceLeDiff, Nat.reduceEqDiff, Nat.zero_add, reduceIte, Bool.false_eq_true, Bool.not_true, Bool.not_false, and_self, sizeM_eq, gAddA, gAdd, gMulA, gMul, Mir.gSub, gFdiv, gMod, gLt, gLe, gGt, geA_int, gLen, gInt, gAbs, gNeg, s2, Bool.true_or, List.foldl_cons, e]
  obtain ⟨s', e⟩ := key r 0 .none
  show (B_place [.val x, .none, .none] _).bind toRet = _
  unfold B_place
  simp only [ev_bind, ev_nox, ev_seq, ev_set, ev_setOwn, ev_share, ev_drop, ev_ret, ev_retOwn, ev_skip, ev_brk, ev_cnt, ev_ifS, ev_frzS, ev_append, ev_setIx, ev_for, ev_lc, ev_seqOf, ev_range, ev_var, ev_c, ev_op, ev_un, ev_args, ev_nil, ev_cons, ev_frz, ev_b, ev_and, ev_or, ev_not, ev_andV, ev_orV, ev_notV, ev_if, ev_chain, ev_isi, ev_ixOwn, ev_lenOwn, ev_call, ev_callK, ev_sl, ev_part, ev_true, ev_nm, ev_toB, frz, frzAt, toSeq_tup, toSeq_lst, toSeq_cl, toRet, mWipe, kbG, Mir.gTup, Mir.gLst, List.getElem?_cons_zero, List.getElem?_cons_succ, List.set_cons_zero, List.set_cons_succ, List.length_cons, List.length_nil, List.append_nil, List.nil_append, List.cons_append, Nat.reduceAdd, Nat.reduceLeDiff, Nat.reduceEqDiff, Nat.zero_add, reduceIte, Bool.false_eq_true, Bool.not_true, Bool.not_false, and_self, sizeM_eq, hx, e]
  rfl
end Mir
set_option maxHeartbeats 4000000
/-! MirF: texts of small data. -/
namespace Mir
open PySem L2
/-- small data: a text of it is no longer than 32 w + 30 -/
def Sm (x : PV) (w k : Nat) : Prop := ∃ d, toD x = some d ∧ PyData.showable d = true ∧ d.leavesShort 30 = true ∧ d.weight ≤ w ∧ d.depth ≤ k
theorem Sm.mono {x : PV} {w k w' k' : Nat} (h : Sm x w k) (h1 : w ≤ w') (h2 : k ≤ k') : Sm x w' k' := by
  obtain ⟨d, a, b, c, e, f⟩ := h
  exact ⟨d, a, b, c, Nat.le_trans e h1, Nat.le_trans f h2⟩
theorem sm_non : Sm .non 0 0 := ⟨.none, rfl, rfl, rfl, Nat.le_refl _, Nat.le_refl _⟩
theorem sm_bl (b : Bool) : Sm (.bl b) 0 0 := ⟨.bool b, rfl, rfl, rfl, Nat.le_refl _, Nat.le_refl _⟩
theorem sm_bit {b : Int} (h : b = 0 ∨ b = 1) : Sm (.int b) 1 0 := by
  rcases h with rfl | rfl
  · exact ⟨.int 0, rfl, by decide +kernel, by decide +kernel, by decide +kernel, by decide +kernel⟩
  · exact ⟨.int 1, rfl, by decide +kernel, by decide +kernel, by decide +kernel, by decide +kernel⟩
/-- lists of data -/
def SmAll (xs : List PV) (ds : List PyData) (w k : Nat) : Prop := toDs xs = some ds ∧ PyData.showableAll ds = true ∧ PyData.leavesShortAll 30 ds = true ∧ PyData.weightAll ds ≤ (w + 1) * xs.length ∧ PyData.depthAll ds ≤ k
theorem smAll {w k : Nat} : ∀ {xs : List PV}, (∀ x ∈ xs, Sm x w k) → ∃ ds, SmAll xs ds w k
  | [], _ => ⟨[], rfl, rfl, rfl, by simp [PyData.weightAll], by simp [PyData.depthAll]⟩
  | x :: xs, h => by
    obtain ⟨d, a1, a2, a3, a4, a5⟩ := h x List.mem_cons_self
    obtain ⟨ds, b1, b2, b3, b4, b5⟩ := smAll (xs := xs) fun y hy => h y (List.mem_cons_of_mem _ hy)
    refine ⟨d :: ds, ?_, ?_, ?_, ?_, ?_⟩
    · simp only [toDs, a1, b1]
    · simp only [PyData.showableAll, a2, b2, Bool.and_self]
    · simp only [PyData.leavesShortAll, a3, b3, Bool.and_self]
    · simp only [PyData.weightAll, List.length_cons]
      rw [Nat.mul_add, Nat.mul_one]
      omega
    · simp only [PyData.depthAll]
      omega
theorem sm_tup {xs : List PV} {w k : Nat} (h : ∀ x ∈ xs, Sm x w k) : Sm (.tup xs) ((w + 1) * xs.length) (k + 1) := by
  obtain ⟨ds, b1, b2, b3, b4, b5⟩ := smAll h
  refine ⟨.tuple ds, by simp only [toD, b1, Option.map_some], by simpa only [PyData.showable] using b2, by simpa only [PyData.leavesShort] using b3, by simpa only [PyData.weight] using b4, by simp only [PyData.depth]; omega⟩
theorem sm_lst {xs : List PV} {w k : Nat} (h : ∀ x ∈ xs, Sm x w k) : Sm (.lst xs) ((w + 1) * xs.length) (k + 1) := by
  obtain ⟨ds, b1, b2, b3, b4, b5⟩ := smAll h
  refine ⟨.list ds, by simp only [toD, b1, Option.map_some], by simpa only [PyData.showable] using b2, by simpa only [PyData.leavesShort] using b3, by simpa only [PyData.weight] using b4, by simp only [PyData.depth]; omega⟩
theorem sm_row {r : List Int} (h : Bits r) : Sm (rowP r) (2 * r.length) 1 := by
  have := sm_tup (xs := r.map PV.int) (w := 1) (k := 0) fun x hx => by
    obtain ⟨b, hb, rfl⟩ := List.mem_map.mp hx
    exact sm_bit (h b hb)
  show Sm (.tup (r.map PV.int)) _ _
  simpa using this
theorem sm_repr {x : PV} {w k : Nat} (h : Sm x w k) (hw : w ≤ 3000) (hk : k ≤ 60) (S : Store) : ∃ s, gRepr [x] S = .ok (.str s) S := by
  obtain ⟨d, a, b, c, e, f⟩ := h
  refine ⟨d.shown, ?_⟩
  have hl := PyData.shown_le 30 (by omega) d c
  have hl2 : (30 + 2) * d.weight ≤ 32 * 3000 := Nat.mul_le_mul (Nat.le_refl _) (Nat.le_trans e hw)
  have ok : reprOk d = true := by
    unfold reprOk
    simp only [b, Bool.true_and, Bool.and_eq_true, decide_eq_true_eq]
    exact ⟨by rw [sizeM_eq]; omega, Nat.le_trans f hk⟩
  show (match toD x with | some d => (if reprOk d = true then Res.ok (PV.str d.shown) S else .bad) | none => .bad) = Res.ok (PV.str d.shown) S
  rw [a]
  simp only [ok, if_pos]
/-- a text is not unlike itself -/
theorem ne_self (s : Str) (S : Store) : gEq true (.str s) (.str s) S = .ok (.bl false) S := by
  unfold gEq
  simp only [toV, scal, if_pos, decide_true, Bool.not_true]
theorem eq_self (s : Str) (S : Store) : gEq false (.str s) (.str s) S = .ok (.bl true) S := by
  unfold gEq
  simp only [toV, scal, if_pos, decide_true, Bool.false_eq_true, if_false]
theorem ne_int (i j : Int) (S : Store) : gEq true (.int i) (.int j) S = .ok (.bl (!decide (i = j))) S := by
  unfold gEq
  simp only [toV, scal, if_pos, V.int.injEq]
theorem eq_int (i j : Int) (S : Store) : gEq false (.int i) (.int j) S = .ok (.bl (decide (i = j))) S := by
  unfold gEq
  simp only [toV, scal, if_pos, V.int.injEq, Bool.false_eq_true, if_false]
theorem ne_bl (i j : Bool) (S : Store) : gEq true (.bl i) (.bl j) S = .ok (.bl (!decide (i = j))) S := by
  unfold gEq
  simp only [toV, scal, if_pos, V.bl.injEq]
/-! what rows read at a place -/
def colN (rows : List (List Int)) (j : Nat) : List Int := rows.map fun r => r.getD j 0
/-- the row that a table makes -/
def madeN (tb : List Int) (rows : List (List Int)) (size : Nat) : List Int := (List.range size).map fun j => tb.getD (numOf (colN rows j)).toNat 0
theorem numOf_snoc (r : List Int) (b : Int) : numOf (r ++ [b]) = 2 * numOf r + b := by
  unfold numOf
  rw [List.foldl_append]
  rfl
theorem numOf_lt : ∀ (n : Nat) (r : List Int), r.length = n → Bits r → 0 ≤ numOf r ∧ numOf r < 2 ^ n
  | 0, r, h, _ => by
    have e : r = [] := List.length_eq_zero_iff.mp h
    subst e
    exact ⟨Int.le_refl _, by decide⟩
  | n + 1, r, h, hb => by
    have hne : r ≠ [] := fun e => by rw [e] at h; cases h
    have e := List.dropLast_concat_getLast hne
    have h1 : r.dropLast.length = n := by rw [List.length_dropLast, h]; rfl
    obtain ⟨i1, i2⟩ := numOf_lt n r.dropLast h1 fun b hb' => hb b ((List.dropLast_sublist r).subset hb')
    have hl := hb _ (List.getLast_mem hne)
    rw [← e, numOf_snoc]
    have p : (2 : Int) ^ (n + 1) = 2 ^ n * 2 := Int.pow_succ _ _
    rw [p]
    rcases hl with hl | hl <;> rw [hl] <;> omega
theorem rowsE_num : ∀ (n i : Nat) (r : List Int), (rowsE n)[i]? = some r → numOf r = i
  | 0, i, r, h => by
    have : i = 0 := by
      have := (List.getElem?_eq_some_iff.mp h).1
      simp [rowsE] at this; exact this
    subst this
    have e : r = [] := by simpa [rowsE] using h.symm
    subst e
    rfl
  | n + 1, i, r, h => by
    have key : ∀ (l : List (List Int)) (i : Nat) (r : List Int), (l.flatMap fun r => [r ++ [0], r ++ [1]])[i]? = some r → ∃ r', l[i / 2]? = some r' ∧ r = r' ++ [((i % 2 : Nat) : Int)] := by
      intro l
      induction l with
      | nil => intro i r h; simp at h
      | cons x l ih =>
        intro i r h
        rw [List.flatMap_cons] at h
        match i, h with
        | 0, h =>
          simp at h
          exact ⟨x, rfl, by simp [← h]⟩
        | 1, h =>
          simp at h
          exact ⟨x, rfl, by simp [← h]⟩
        | i + 2, h =>
          have h' : (l.flatMap fun r => [r ++ [0], r ++ [1]])[i]? = some r := by simpa using h
          obtain ⟨r', h1, h2⟩ := ih i r h'
          refine ⟨r', ?_, ?_⟩
          · rw [show (i + 2) / 2 = i / 2 + 1 by omega]
            simpa using h1
          · rw [show (i + 2) % 2 = i % 2 by omega]
            exact h2
    obtain ⟨r', h1, rfl⟩ := key (rowsE n) i r h
    rw [numOf_snoc, rowsE_num n (i / 2) r' h1]
    omega

/-! isinstance of what is no shared object -/
def isDat : PV → Bool
  | .obj _ => false
  | .dk _ _ => false
  | .ins _ _ _ => false
  | .fn _ => false
  | _ => true
def NoObj (v : PV) : Prop := isDat v = true
def isIntP : PV → Bool
  | .int _ => true
  | .bl _ => true
  | _ => false
def isBoolP : PV → Bool
  | .bl _ => true
  | _ => false
def isTupP : PV → Bool
  | .tup _ => true
  | _ => false
def isStrP : PV → Bool
  | .str _ => true
  | _ => false
def isLstP : PV → Bool
  | .lst _ => true
  | .cl _ => true
  | _ => false
theorem isi_of {T : String} {v : PV} {p : PV → Bool} (h : NoObj v) (S : Store) (h0 : kitB "NoneType" T = some (p .non)) (h1 : ∀ b, kitB "bool" T = some (p (.bl b))) (h2 : ∀ i, kitB "int" T = some (p (.int i))) (h3 : ∀ x, kitB "str" T = some (p (.str x))) (h4 : ∀ x, kitB "tuple" T = some (p (.tup x))) (h5 : ∀ x, kitB "list" T = some (p (.lst x))) (h6 : ∀ x, kitB "list" T = some (p (.cl x))) : gIsi T v S = .ok (.bl (p v)) S := by
  unfold gIsi
  cases v with
  | obj n => cases h
  | dk ks xs => cases h
  | ins c ns xs => cases h
  | fn x => cases h
  | non => simp only [tyP, h0]
  | bl b => simp only [tyP, h1 b]
  | int i => simp only [tyP, h2 i]
  | str x => simp only [tyP, h3 x]
  | tup x => simp only [tyP, h4 x]
  | lst x => simp only [tyP, h5 x]
  | cl x => simp only [tyP, h6 x]
theorem isi_int {v : PV} (h : NoObj v) (S : Store) : gIsi "int" v S = .ok (.bl (isIntP v)) S := isi_of h S (by decide +kernel) (fun _ => by show kitB "bool" "int" = some true; decide +kernel) (fun _ => by show kitB "int" "int" = some true; decide +kernel) (fun _ => by show kitB "str" "int" = some false; decide +kernel) (fun _ => by show kitB "tuple" "int" = some false; decide +kernel) (fun _ => by show kitB "list" "int" = some false; decide +kernel) (fun _ => by show kitB "list" "int" = some false; decide +kernel)
theorem isi_bool {v : PV} (h : NoObj v) (S : Store) : gIsi "bool" v S = .ok (.bl (isBoolP v)) S := isi_of h S (by decide +kernel) (fun _ => by show kitB "bool" "bool" = some true; decide +kernel) (fun _ => by show kitB "int" "bool" = some false; decide +kernel) (fun _ => by show kitB "str" "bool" = some false; decide +kernel) (fun _ => by show kitB "tuple" "bool" = some false; decide +kernel) (fun _ => by show kitB "list" "bool" = some false; decide +kernel) (fun _ => by show kitB "list" "bool" = some false; decide +kernel)
theorem isi_tuple {v : PV} (h : NoObj v) (S : Store) : gIsi "tuple" v S = .ok (.bl (isTupP v)) S := isi_of h S (by decide +kernel) (fun _ => by show kitB "bool" "tuple" = some false; decide +kernel) (fun _ => by show kitB "int" "tuple" = some false; decide +kernel) (fun _ => by show kitB "str" "tuple" = some false; decide +kernel) (fun _ => by show kitB "tuple" "tuple" = some true; decide +kernel) (fun _ => by show kitB "list" "tuple" = some false; decide +kernel) (fun _ => by show kitB "list" "tuple" = some false; decide +kernel)
theorem isi_str {v : PV} (h : NoObj v) (S : Store) : gIsi "str" v S = .ok (.bl (isStrP v)) S := isi_of h S (by decide +kernel) (fun _ => by show kitB "bool" "str" = some false; decide +kernel) (fun _ => by show kitB "int" "str" = some false; decide +kernel) (fun _ => by show kitB "str" "str" = some true; decide +kernel) (fun _ => by show kitB "tuple" "str" = some false; decide +kernel) (fun _ => by show kitB "list" "str" = some false; decide +kernel) (fun _ => by show kitB "list" "str" = some false; decide +kernel)
theorem isi_list {v : PV} (h : NoObj v) (S : Store) : gIsi "list" v S = .ok (.bl (isLstP v)) S := isi_of h S (by decide +kernel) (fun _ => by show kitB "bool" "list" = some false; decide +kernel) (fun _ => by show kitB "int" "list" = some false; decide +kernel) (fun _ => by show kitB "str" "list" = some false; decide +kernel) (fun _ => by show kitB "tuple" "list" = some false; decide +kernel) (fun _ => by show kitB "list" "list" = some true; decide +kernel) (fun _ => by show kitB "list" "list" = some true; decide +kernel)
theorem mapM_bl {α : Type} (p : α → Bool) : ∀ xs : List α, (xs.map fun x => PV.bl (p x)).mapM toBl = some (xs.map p)
  | [] => rfl
  | x :: xs => by
    rw [List.map_cons, List.mapM_cons, mapM_bl p xs]
    rfl
theorem mapM_int : ∀ xs : List Int, (xs.map PV.int).mapM toI = some xs
  | [] => rfl
  | x :: xs => by
    rw [List.map_cons, List.mapM_cons, mapM_int xs]
    rfl
theorem at0 {α : Type} {x : α} {xs : List α} : atI (x :: xs) 0 = some x := by
  obtain ⟨hi, e⟩ := atI_ok (xs := x :: xs) (i := 0) (by omega) (by simp)
  rw [e]
  rfl
theorem atI_row {r : List Int} {j : Nat} (h : j < r.length) : atI (r.map PV.int) (j : Int) = some (.int (r.getD j 0)) := by
  obtain ⟨hi, e⟩ := atI_ok (xs := r.map PV.int) (i := (j : Int)) (by omega) (by simpa using h)
  rw [e]
  simp [List.getD_eq_getElem?_getD, List.getElem?_eq_getElem h]
/-- an item of a list at a drawn place -/
theorem at_mem {α : Type} {xs : List α} {i : Int} (h : 0 ≤ i) (h2 : i < xs.length) : ∃ y, atI xs i = some y ∧ y ∈ xs := by
  obtain ⟨hi, e⟩ := atI_ok h h2
  exact ⟨_, e, List.getElem_mem hi⟩
theorem cutP_mem {xs : List PV} {i j : Option Int} {y : PV} (h : y ∈ cutP xs i j) : y ∈ xs := List.mem_of_mem_drop (List.mem_of_mem_take h)
theorem cutP_len (xs : List PV) (i j : Option Int) : (cutP xs i j).length ≤ xs.length := by
  unfold cutP
  rw [List.length_take, List.length_drop]
  omega
theorem ints_of {P : Int → Prop} : ∀ {ys : List PV}, (∀ y ∈ ys, ∃ b : Int, y = .int b ∧ P b) → ∃ tb : List Int, ys = tb.map PV.int ∧ ∀ b ∈ tb, P b
  | [], _ => ⟨[], rfl, fun b h => nomatch h⟩
  | y :: ys, h => by
    obtain ⟨b, rfl, hb⟩ := h y List.mem_cons_self
    obtain ⟨tb, rfl, ht⟩ := ints_of (ys := ys) fun z hz => h z (List.mem_cons_of_mem _ hz)
    refine ⟨b :: tb, rfl, fun c hc => ?_⟩
    rcases List.mem_cons.mp hc with rfl | hc
    · exact hb
    · exact ht c hc
/-- what stands in both lists at the same place -/
theorem ix_all {P : PV → Prop} {xs ys : List PV} (hl : ys.length = xs.length) (h : ∀ (i : Nat) x y, xs[i]? = some x → ys[i]? = some y → P y) : ∀ y ∈ ys, P y := fun y hy => by
  obtain ⟨n, hn, e⟩ := List.getElem_of_mem hy
  exact h n _ y (List.getElem?_eq_getElem (by omega)) (by rw [List.getElem?_eq_getElem hn, e])
end Mir
set_option maxHeartbeats 4000000
/-! MirM: equations of the later mirrors. -/
namespace Mir
open PySem L2
section
variable {α β : Type} {ρ : Rho} {S : Store} {f : Rho → Store → Res Out} {a b : Rho → Store → Res PV} {as : Rho → Store → Res (List PV)} {n : Rho → Store → Res SO} {i j : Nat}
theorem ev_bindExc {c : Str} {fs : List (Str × PV)} {k : α → Store → Res β} : (Res.exc c fs S : Res α).bind k = .exc c fs S := nrfl rfl
theorem ev_asg {g : PV → Rho → Store → Res Rho} : mAsg a g ρ S = (a ρ S).bind fun x S1 => (g x ρ S1).bind fun ρ' S2 => .ok (.nx ρ') S2 := nrfl rfl
theorem ev_unTup {k : Nat} {g : List PV → Rho → Store → Res Rho} {xs : List PV} : gUn k g (.tup xs) ρ S = if xs.length = k then g xs ρ S else .bad := nrfl rfl
theorem ev_unLst {k : Nat} {g : List PV → Rho → Store → Res Rho} {xs : List PV} : gUn k g (.lst xs) ρ S = if xs.length = k then g xs ρ S else .bad := nrfl rfl
theorem ev_tupM {k : Nat} {g : List PV → Rho → Store → Res Rho} {xs : List PV} : gTupM k g (.tup xs) ρ S = if xs.length = k then g xs ρ S else .bad := nrfl rfl
theorem ev_gsCons {h : PV → Rho → Store → Res Rho} {g : List PV → Rho → Store → Res Rho} {x : PV} {xs : List PV} : gsCons h g (x :: xs) ρ S = (h x ρ S).bind fun ρ' S' => g xs ρ' S' := nrfl rfl
theorem ev_gsNil : gsNil [] ρ S = .ok ρ S := nrfl rfl
theorem ev_raise {c : Str} {flds : List Str} : mRaise c flds as ρ S = (as ρ S).bind fun xs S1 => if xs.length = flds.length then .exc c (flds.zip xs) S1 else .bad := nrfl rfl
/-- what a try gives of what its body gives -/
def tryR (i k : Nat) (hs : List Hd) : Res Out → Res Out
  | .exc c fv S1 => mHds false i hs c fv (List.replicate k Slot.none) S1
  | r => r
theorem ev_tryL {k : Nat} {hs : List Hd} : mTryL i k f hs ρ S = tryR i k hs (f ρ S) := by
  unfold mTryL tryR
  cases f ρ S <;> rfl
theorem ev_tryOk {k : Nat} {hs : List Hd} {o : Out} : tryR i k hs (.ok o S) = .ok o S := nrfl rfl
theorem ev_tryExc {k : Nat} {hs : List Hd} {c : Str} {fv : List (Str × PV)} : tryR i k hs (.exc c fv S) = mHds false i hs c fv (List.replicate k Slot.none) S := nrfl rfl
def tryB (i : Nat) (hs : List Hd) (ρ : Rho) : Res Out → Res Out
  | .exc c fv S1 => if i < ρ.length then mHds true i hs c fv (clr ρ) S1 else .bad
  | r => r
theorem ev_tryB {hs : List Hd} : mTryB i f hs ρ S = tryB i hs ρ (f ρ S) := by
  unfold mTryB tryB
  cases f ρ S <;> rfl
theorem ev_tryBOk {hs : List Hd} {o : Out} : tryB i hs ρ (.ok o S) = .ok o S := nrfl rfl
theorem ev_tryBExc {hs : List Hd} {c : Str} {fv : List (Str × PV)} : tryB i hs ρ (.exc c fv S) = if i < ρ.length then mHds true i hs c fv (clr ρ) S else .bad := nrfl rfl
theorem hds_in {all : Bool} {tbl : List (Str × Bool)} {fs : Rho → Store → Res Out} {r : List Hd} {c : Str} {fv : List (Str × PV)} (h : tbl.lookup c = some true) : mHds all i ((tbl, fs) :: r) c fv ρ S = endS all i (fs (ρ.set i (.pin c fv)) S) := by
  show (match tbl.lookup c with | some true => endS all i (fs (ρ.set i (.pin c fv)) S) | some false => mHds all i r c fv ρ S | none => .bad) = _
  rw [h]
theorem hds_no {all : Bool} {tbl : List (Str × Bool)} {fs : Rho → Store → Res Out} {r : List Hd} {c : Str} {fv : List (Str × PV)} (h : tbl.lookup c = some false) : mHds all i ((tbl, fs) :: r) c fv ρ S = mHds all i r c fv ρ S := by
  show (match tbl.lookup c with | some true => endS all i (fs (ρ.set i (.pin c fv)) S) | some false => mHds all i r c fv ρ S | none => .bad) = _
  rw [h]
theorem endS_rtE {all : Bool} {x : PV} : endS all i (.ok (.rt x) S) = .ok (.rt x) S := nrfl rfl
theorem endS_nxE : endS true i (.ok (.nx ρ) S) = .ok (.nx (clr (ρ.set i .none))) S := nrfl rfl
theorem ev_kin {neg : Bool} {tbl : List (Str × PV)} : mKIn neg tbl a ρ S = (a ρ S).bind fun x S1 => match x with
  | .str z => .ok (.bl (if neg then !(tbl.lookup z).isSome else (tbl.lookup z).isSome)) S1
  | _ => .bad := nrfl rfl
theorem ev_kget {tbl : List (Str × PV)} : mKGet tbl a ρ S = (a ρ S).bind fun x S1 => match x with
  | .str z => (match tbl.lookup z with
    | some p => .ok p S1
    | none => .bad)
  | _ => .bad := nrfl rfl
theorem ev_index : mIndex a as ρ S = (a ρ S).bind fun x S1 => match x with
  | .lst xs => (as ρ S1).bind fun ys S2 => gIndex (.lst xs) ys S2
  | _ => .bad := nrfl rfl
end
theorem shaped_int (i : Int) : SeqAt.shaped (.int i) = true := rfl
theorem eqD_int (i j : Int) (S : Store) : gEqD false (.int i) (.int j) S = .ok (.bl (decide (i = j))) S := by
  rw [gEqD_else (by rintro ⟨_, _, h, _⟩; cases h)]
  unfold gEqDeep
  simp only [toD, shaped_int, Bool.and_self, if_pos, PyData.eqv, Bool.false_eq_true, if_false]
  congr 2
theorem neD_int (i j : Int) (S : Store) : gEqD true (.int i) (.int j) S = .ok (.bl (!decide (i = j))) S := by
  rw [gEqD_else (by rintro ⟨_, _, h, _⟩; cases h)]
  unfold gEqDeep
  simp only [toD, shaped_int, Bool.and_self, if_pos, PyData.eqv]
  congr 3
theorem eqD_str (a b : Str) (S : Store) : gEqD false (.str a) (.str b) S = .ok (.bl (decide (a = b))) S := rfl
theorem neD_str (a b : Str) (S : Store) : gEqD true (.str a) (.str b) S = .ok (.bl (!decide (a = b))) S := rfl
/-- rows are of a shape that can be asked -/
theorem toDs_ints : ∀ r : List Int, toDs (r.map PV.int) = some (r.map PyData.int)
  | [] => rfl
  | i :: r => by simp only [List.map_cons, toDs, toD, toDs_ints r]
theorem toD_row (r : List Int) : toD (rowP r) = some (.tuple (r.map PyData.int)) := by
  unfold rowP
  simp only [toD, toDs_ints, Option.map_some]
theorem lay_ints : ∀ r : List Int, PyData.canLayAll0 (r.map PyData.int) = true
  | [] => rfl
  | i :: r => by simp only [List.map_cons, PyData.canLayAll0, PyData.canLay0, lay_ints r, Bool.and_self]
theorem depth_ints : ∀ r : List Int, PyData.depthAll (r.map PyData.int) = 0
  | [] => by simp [PyData.depthAll]
  | i :: r => by simp only [List.map_cons, PyData.depthAll, PyData.depth, depth_ints r, Nat.max_self]
theorem shaped_row (r : List Int) : SeqAt.shaped (.tuple (r.map PyData.int)) = true := by
  unfold SeqAt.shaped
  simp only [PyData.canLay0, lay_ints, PyData.depth, depth_ints, Bool.true_and]
  rfl
theorem eqvAll_ints : ∀ r s : List Int, PyData.eqvAll (r.map PyData.int) (s.map PyData.int) = decide (r = s)
  | [], [] => rfl
  | [], _ :: _ => rfl
  | _ :: _, [] => rfl
  | i :: r, j :: s => by
    simp only [List.map_cons, PyData.eqvAll, PyData.eqv, eqvAll_ints r s]
    rw [Bool.eq_iff_iff]
    simp
theorem eqD_row (r s : List Int) (S : Store) : gEqD false (rowP r) (rowP s) S = .ok (.bl (decide (r = s))) S := by
  rw [gEqD_else (by rintro ⟨_, _, h, _⟩; cases h)]
  unfold gEqDeep
  simp only [toD_row, shaped_row, Bool.and_self, if_pos, PyData.eqv, eqvAll_ints, Bool.false_eq_true, if_false]
end Mir
set_option maxHeartbeats 4000000
/-! MirS: texts of data are texts that can be laid; == of such. -/
namespace Mir
open PySem L2
theorem sok_app {a b : Str} (h : PyData.strOk a = true) (g : PyData.strOk b = true) : PyData.strOk (a ++ b) = true := by
  unfold PyData.strOk at *
  show ((a.cps ++ b.cps).all _) = true
  rw [Array.all_append, h, g]
  rfl
theorem sok_lit (s : String) : PyData.strOk (s : Str) = true := by
  unfold PyData.strOk
  show (Str.ofString s).cps.all _ = true
  rw [Str.ofString_eq_toList]
  rw [Array.all_eq_true']
  intro x hx
  simp only [List.mem_toArray, List.mem_map] at hx
  obtain ⟨c, _, rfl⟩ := hx
  have h := c.valid
  have e : c.toNat = c.val.toNat := rfl
  simp only [UInt32.isValidChar, Nat.isValidChar] at h
  rw [decide_eq_true_eq, e]
  omega
theorem sok_join {sep : Str} (h : PyData.strOk sep = true) : ∀ {l : List Str}, (∀ x ∈ l, PyData.strOk x = true) → PyData.strOk (Str.join sep l) = true
  | [], _ => by simp only [Str.join]; decide +kernel
  | [x], g => g x List.mem_cons_self
  | x :: y :: r, g => sok_app (sok_app (g x List.mem_cons_self) h) (sok_join h fun z hz => g z (List.mem_cons_of_mem _ hz))
mutual
/-- data whose texts are told by plain signs -/
def plainD : PyData → Bool
  | .none | .bool _ | .int _ => true
  | .str x => PyData.strOk (PyData.str x).shown
  | .list xs | .tuple xs => plainDs xs
  | .dict _ => false
def plainDs : List PyData → Bool
  | [] => true
  | x :: xs => plainD x && plainDs xs
end
mutual
theorem sok_shown : ∀ d : PyData, plainD d = true → PyData.strOk d.shown = true
  | .none, _ => by rw [PyData.shown_none]; exact sok_lit _
  | .bool b, _ => by rw [PyData.shown_bool]; cases b <;> exact sok_lit _
  | .int i, _ => by rw [PyData.shown_int]; exact sok_lit _
  | .str x, h => by simpa only [plainD] using h
  | .list xs, h => by
    rw [PyData.shown_list]
    exact sok_app (sok_app (sok_lit _) (sok_join (sok_lit _) (sok_shownAll xs (by simpa only [plainD] using h)))) (sok_lit _)
  | .tuple xs, h => by
    rw [PyData.shown_tuple]
    refine sok_app (sok_app (sok_lit _) (sok_join (sok_lit _) (sok_shownAll xs (by simpa only [plainD] using h)))) ?_
    exact sok_lit _
  | .dict _, h => by simp [plainD] at h
theorem sok_shownAll : ∀ xs : List PyData, plainDs xs = true → ∀ t ∈ PyData.shownAll xs, PyData.strOk t = true
  | [], _, t, ht => by simp [PyData.shownAll_nil] at ht
  | x :: xs, h, t, ht => by
    simp only [plainDs, Bool.and_eq_true] at h
    rw [PyData.shownAll_cons] at ht
    rcases List.mem_cons.mp ht with rfl | ht
    · exact sok_shown x h.1
    · exact sok_shownAll xs h.2 t ht
end
theorem plainDs_of : ∀ {xs : List PyData}, (∀ x ∈ xs, plainD x = true) → plainDs xs = true
  | [], _ => rfl
  | x :: xs, h => by simp only [plainDs, h x List.mem_cons_self, plainDs_of fun y hy => h y (List.mem_cons_of_mem _ hy), Bool.and_self]
theorem toDs_get : ∀ {xs : List PV} {ds : List PyData}, toDs xs = some ds → ∀ d ∈ ds, ∃ x ∈ xs, toD x = some d
  | [], ds, h, d, hd => by simp only [toDs, Option.some.injEq] at h; subst h; cases hd
  | x :: xs, ds, h, d, hd => by
    simp only [toDs] at h
    cases h1 : toD x with
    | none => rw [h1] at h; cases h
    | some e =>
      cases h2 : toDs xs with
      | none => rw [h1, h2] at h; cases h
      | some es =>
        rw [h1, h2] at h
        simp only [Option.some.injEq] at h
        subst h
        rcases List.mem_cons.mp hd with rfl | hd
        · exact ⟨x, List.mem_cons_self, h1⟩
        · obtain ⟨y, hy, e⟩ := toDs_get h2 d hd
          exact ⟨y, List.mem_cons_of_mem _ hy, e⟩
/-- data whose text is told by plain signs, as a value -/
def Pln (x : PV) : Prop := ∀ d, toD x = some d → plainD d = true
theorem pln_int (i : Int) : Pln (.int i) := fun d h => by cases h; rfl
theorem pln_bl (b : Bool) : Pln (.bl b) := fun d h => by cases h; rfl
theorem pln_tup {xs : List PV} (h : ∀ x ∈ xs, Pln x) : Pln (.tup xs) := fun d hd => by
  simp only [toD, Option.map_eq_some_iff] at hd
  obtain ⟨ds, e, rfl⟩ := hd
  exact plainDs_of fun z hz => by
    obtain ⟨x, hx, ex⟩ := toDs_get e z hz
    exact h x hx z ex
theorem pln_lst {xs : List PV} (h : ∀ x ∈ xs, Pln x) : Pln (.lst xs) := fun d hd => by
  simp only [toD, Option.map_eq_some_iff] at hd
  obtain ⟨ds, e, rfl⟩ := hd
  exact plainDs_of fun z hz => by
    obtain ⟨x, hx, ex⟩ := toDs_get e z hz
    exact h x hx z ex
theorem pln_row (r : List Int) : Pln (rowP r) := pln_tup fun x hx => by
  obtain ⟨b, _, rfl⟩ := List.mem_map.mp hx
  exact pln_int b
theorem repr_pln {x : PV} (h : Pln x) {s : Str} {S : Store} (e : gRepr [x] S = .ok (.str s) S) : PyData.strOk s = true := by
  have e : (match toD x with | some d => (if reprOk d = true then Res.ok (PV.str d.shown) S else .bad) | none => .bad) = Res.ok (PV.str s) S := e
  cases q : toD x with
  | none => rw [q] at e; cases e
  | some d =>
    rw [q] at e
    simp only at e
    split at e
    · cases e
      exact sok_shown d (h d q)
    · cases e
/-- data that is not unlike itself -/
def Selfy (x : PV) : Prop := ∃ d, toD x = some d ∧ SeqAt.shaped d = true
theorem selfy_eq {x : PV} (h : Selfy x) (hx : ∀ a, x ≠ .str a) (S : Store) : gEqD false x x S = .ok (.bl true) S := by
  obtain ⟨d, e, hd⟩ := h
  rw [gEqD_else (by rintro ⟨a, _, h, _⟩; exact hx a h)]
  unfold gEqDeep
  rw [e]
  simp only [hd, Bool.and_self, if_true, SeqAt.eqv_refl d (SeqAt.canLay_of_shaped hd), Bool.false_eq_true, if_false]
theorem selfy_ne {x : PV} (h : Selfy x) (hx : ∀ a, x ≠ .str a) (S : Store) : gEqD true x x S = .ok (.bl false) S := by
  obtain ⟨d, e, hd⟩ := h
  rw [gEqD_else (by rintro ⟨a, _, h, _⟩; exact hx a h)]
  unfold gEqDeep
  rw [e]
  simp only [hd, Bool.and_self, if_true, SeqAt.eqv_refl d (SeqAt.canLay_of_shaped hd), Bool.not_true]
end Mir
set_option maxHeartbeats 4000000
/-! MirA: sharing as an expression, dicts with keys that are ints or texts. -/
namespace Mir
open PySem PySem.Spec PyProof.Rows L2
section
variable {X : Cx} {G : Wd} {E : EK} {E1 : XK}
/-- a new object as a value: it is laid into the store -/
def mShr (f : Rho → Store → Res SO) : Rho → Store → Res PV := fun ρ S => (f ρ S).bind fun o S1 => .ok (.obj S1.length) (S1 ++ [o])
theorem sim_shr {K mg te f} (h : NSim K mg G E te f) : ESim K mg G E te (mShr f) := fun w ρ σ Q I q => by
  refine h w ρ σ _ I (Good.imp (Good.bind1 q) (fun x S1 h1 => ?_) fun _ _ _ h => h)
  intro w1 p e1 s1 k1 n1 o1 l1 r1
  have s2 := share_step (o := x) s1 n1
  have k2 := share_ok k1 o1 l1 r1
  refine h1 (w1.share p x) (.ref p) ?_ s2 k2 ?_
  · show w1.S ++ [x] = S1 ++ [x]
    rw [e1]
  · rw [← e1]
    exact share_rv k1
theorem FN.shr {e te f} (h : FN X G E e te f) : FE X G E e te (mShr f) := ⟨h.pe, sim_shr h.sim⟩

/-! ### dicts -/
def keyP : PV → Option Key
  | .int i => some (.inl i)
  | .str x => some (.inr x)
  | _ => none
def valP : List Key → List PV → Key → Option PV
  | k0 :: ks, x :: xs, k => if k0 = k then some x else valP ks xs k
  | _, _, _ => none
def repP : List Key → List PV → Key → PV → List PV
  | k0 :: ks, x :: xs, k, y => (if k0 = k then y else x) :: repP ks xs k y
  | _, xs, _, _ => xs
/-- d[k] = y: the keys, the values -/
def putKs (ks : List Key) (k : Key) : List Key := if (ks.any fun z => decide (z = k)) = true then ks else ks ++ [k]
def putXs (ks : List Key) (xs : List PV) (k : Key) (y : PV) : List PV := if (ks.any fun z => decide (z = k)) = true then repP ks xs k y else xs ++ [y]
theorem keyP_rv {K L Hc} {y : PV} {u : V} {k : Key} (h : keyP y = some k) (r : RV K L Hc y u) : u = kV k := by
  cases y <;> simp [keyP] at h
  · subst h; exact r
  · subst h; exact r
theorem valP_rv {K L Hc} {k : Key} : ∀ {ks : List Key} {xs : List PV} {vs : List V} {y : PV}, RVs K L Hc xs vs → valP ks xs k = some y → ∃ v, valV (ks.zip vs) k = some v ∧ RV K L Hc y v
  | [], _, _, _, _, e => by simp [valP] at e
  | _ :: _, [], _, _, _, e => by simp [valP] at e
  | k0 :: ks, x :: xs, _, y, h, e => by
    obtain ⟨v, r, rfl, h2, h3⟩ := h
    unfold valP at e
    by_cases q : k0 = k
    · rw [if_pos q] at e
      cases e
      exact ⟨v, valV_pos q, h2⟩
    · rw [if_neg q] at e
      obtain ⟨u, e1, e2⟩ := valP_rv h3 e
      exact ⟨u, by rw [List.zip_cons_cons, valV_neg (by simpa using q)]; exact e1, e2⟩
theorem valP_none {K L Hc} {k : Key} : ∀ {ks : List Key} {xs : List PV} {vs : List V}, RVs K L Hc xs vs → xs.length = ks.length → valP ks xs k = none → valV (ks.zip vs) k = none
  | [], _, _, _, _, _ => rfl
  | _ :: _, [], _, _, l, _ => by simp at l
  | k0 :: ks, x :: xs, _, h, l, e => by
    obtain ⟨v, r, rfl, h2, h3⟩ := h
    unfold valP at e
    by_cases q : k0 = k
    · rw [if_pos q] at e; cases e
    · rw [if_neg q] at e
      rw [List.zip_cons_cons, valV_neg (by simpa using q)]
      exact valP_none h3 (by simpa using l) e
theorem any_zip {k : Key} : ∀ {ks : List Key} {vs : List V}, vs.length = ks.length → ((ks.zip vs).any fun kv => decide (kv.1 = k)) = ks.any fun z => decide (z = k)
  | [], _, _ => rfl
  | _ :: _, [], l => by simp at l
  | k0 :: ks, v :: vs, l => by
    rw [List.zip_cons_cons, List.any_cons, List.any_cons, any_zip (by simpa using l)]
theorem repP_rv {K L Hc} {k : Key} {y : PV} {u : V} (ry : RV K L Hc y u) : ∀ {ks : List Key} {xs : List PV} {vs : List V}, RVs K L Hc xs vs → xs.length = ks.length → ∃ vs', (ks.zip vs).map (fun kv => if kv.1 = k then (kv.1, u) else kv) = ks.zip vs' ∧ RVs K L Hc (repP ks xs k y) vs' ∧ (repP ks xs k y).length = ks.length
  | [], [], _, h, _ => ⟨[], rfl, rfl, rfl⟩
  | [], _ :: _, _, _, l => by simp at l
  | _ :: _, [], _, _, l => by simp at l
  | k0 :: ks, x :: xs, _, h, l => by
    obtain ⟨v, r, rfl, h2, h3⟩ := h
    obtain ⟨vs', e1, e2, e3⟩ := repP_rv ry h3 (by simpa using l)
    unfold repP
    by_cases q : k0 = k
    · refine ⟨u :: vs', ?_, ?_, ?_⟩
      · rw [List.zip_cons_cons, List.map_cons, List.zip_cons_cons, e1, if_pos (by simpa using q)]
      · rw [if_pos q]; exact RVs.cons ry e2
      · simp [e3]
    · refine ⟨v :: vs', ?_, ?_, ?_⟩
      · rw [List.zip_cons_cons, List.map_cons, List.zip_cons_cons, e1, if_neg (by simpa using q)]
      · rw [if_neg q]; exact RVs.cons h2 e2
      · simp [e3]
theorem put_rv {K L Hc} {k : Key} {y : PV} {u : V} (ry : RV K L Hc y u) {ks : List Key} {xs : List PV} {vs : List V} (h : RVs K L Hc xs vs) (l : xs.length = ks.length) : ∃ vs', putK (ks.zip vs) k u = (putKs ks k).zip vs' ∧ RVs K L Hc (putXs ks xs k y) vs' ∧ (putXs ks xs k y).length = (putKs ks k).length := by
  have lv : vs.length = ks.length := by rw [h.len, l]
  unfold putK putKs putXs
  rw [any_zip lv]
  cases q : ks.any fun z => decide (z = k) with
  | true =>
    obtain ⟨vs', e1, e2, e3⟩ := repP_rv ry h l
    exact ⟨vs', by rw [if_pos rfl, if_pos rfl]; exact e1, by rw [if_pos rfl]; exact e2, by rw [if_pos rfl, if_pos rfl]; exact e3⟩
  | false =>
    refine ⟨vs ++ [u], ?_, ?_, ?_⟩
    · rw [if_neg Bool.false_ne_true, if_neg Bool.false_ne_true, List.zip_append lv.symm]; rfl
    · rw [if_neg Bool.false_ne_true]; exact h.append (RVs.one ry)
    · rw [if_neg Bool.false_ne_true, if_neg Bool.false_ne_true, List.length_append, List.length_append, l]; rfl

/-- d[k], d a dict in the store or one that is never changed -/
def gDGet : PV → PV → Store → Res PV
  | .dk ks xs, y, S => (match keyP y with
    | some k => (match valP ks xs k with | some z => .ok z S | none => .bad)
    | none => .bad)
  | .obj n, y, S => (match S[n]? with
    | some (.dk ks xs) => (match keyP y with
      | some k => (match valP ks xs k with | some z => .ok z S | none => .bad)
      | none => .bad)
    | _ => .bad)
  | _, _, _ => .bad
theorem st_dk {K : PySem.W.Frag} {w : Wd} (k : WOk K w) {n : Nat} {v : V} {ks : List Key} {xs : List PV} (r : RV K w.L w.hc (.obj n) v) (h : w.S[n]? = some (.dk ks xs)) : ∃ a vs, v = .ref a ∧ w.L[n]? = some a ∧ w.H a = some (.dK (ks.zip vs)) ∧ xs.length = ks.length ∧ RVs K w.L w.hc xs vs := by
  obtain ⟨a, rfl, e⟩ := r
  obtain ⟨vs, h1, h2, h3⟩ := k.st n _ a h e
  exact ⟨a, vs, rfl, e, h1, h2, h3⟩
def rDGet (x u : V) (H : Hp) (Q : VK) : Prop := ∃ a v, x = .ref a ∧ DGet H a u (some v) ∧ Q v H
theorem r2_dget {K mg} {E : XK} : R2Sim K mg E rDGet gDGet := fun w x y v u Q k rx ry g => by
  replace g : Good (match x with
    | .dk ks xs => (match keyP y with
      | some k => (match valP ks xs k with | some z => Res.ok z w.S | none => .bad)
      | none => .bad)
    | .obj n => (match w.S[n]? with
      | some (.dk ks xs) => (match keyP y with
        | some k => (match valP ks xs k with | some z => .ok z w.S | none => .bad)
        | none => .bad)
      | _ => .bad)
    | _ => .bad) (PostV K w Q) (ExP K mg E w) := by cases x <;> exact g
  cases x <;> first | exact g.elim | skip
  rotate_left
  · rename_i ks xs
    cases e1 : keyP y with
    | none => rw [e1] at g; exact g.elim
    | some kk =>
      simp only [e1] at g
      cases e2 : valP ks xs kk with
      | none => simp only [e2] at g; exact g.elim
      | some z =>
        simp only [e2] at g
        obtain ⟨a, vs, rfl, h1, h2, h3⟩ := rx
        obtain ⟨z', v1, v2⟩ := valP_rv h3 e2
        have := keyP_rv e1 ry
        subst this
        exact ⟨a, z', rfl, v1 ▸ DGet.k (hc_lst h1), post_self k g rfl v2⟩
  · rename_i n
    dsimp only at g
    cases eS : w.S[n]? with
    | none => rw [eS] at g; exact g.elim
    | some o =>
      cases o with
      | lst xs => rw [eS] at g; exact g.elim
      | ins c ns xs => rw [eS] at g; exact g.elim
      | dk ks xs =>
        simp only [eS] at g
        cases e1 : keyP y with
        | none => simp only [e1] at g; exact g.elim
        | some kk =>
          simp only [e1] at g
          cases e2 : valP ks xs kk with
          | none => simp only [e2] at g; exact g.elim
          | some z =>
            simp only [e2] at g
            obtain ⟨a, vs, rfl, _, h1, h2, h3⟩ := st_dk k rx eS
            obtain ⟨z', v1, v2⟩ := valP_rv h3 e2
            have := keyP_rv e1 ry
            subst this
            exact ⟨a, z', rfl, v1 ▸ DGet.k h1, post_self k g rfl v2⟩
theorem fe_dget {a b pos ta tb fa fb} (hu : X.A.units + 200 < cLine) (ha : FE X G E a ta fa) (hb : FE X G E b tb fb) (hs : NoSl b := by exact fun _ _ => rfl) : FE X G E (.Subscript a b pos) (tDGet ta tb) (mOp gDGet fa fb) :=
  ⟨pe_dget (by omega) ha.pe hb.pe hs, sim_op (r := rDGet) ha.sim hb.sim fun _ => r2_dget⟩
/-- d[k] = e, d a dict of ours, or one in the store -/
def setKO (n : Nat) (y : PV) (ρ : Rho) (z : PV) (S : Store) : Res Out := match keyP z with
  | some k => (match S[n]? with
    | some (.dk ks xs) => if ks.length < sizeM then .ok (.nx ρ) (S.set n (.dk (putKs ks k) (putXs ks xs k y))) else .bad
    | _ => .bad)
  | none => .bad
def setK (i : Nat) (ks : List Key) (xs : List PV) (y : PV) (ρ : Rho) (z : PV) (S : Store) : Res Out := match keyP z with
  | some k => if ks.length < sizeM then .ok (.nx (ρ.set i (.own (.dk (putKs ks k) (putXs ks xs k y))))) S else .bad
  | none => .bad
def mDPut (i : Nat) (fk f : Rho → Store → Res PV) : Rho → Store → Res Out := fun ρ S => (f ρ S).bind fun y S1 => match ρ[i]? with
  | some (.own (.dk ks xs)) => (fk ρ S1).bind fun k S2 => setK i ks xs y ρ k S2
  | some (.val (.obj n)) => (fk ρ S1).bind fun k S2 => setKO n y ρ k S2
  | _ => .bad
theorem sim_dput {K : PySem.W.Frag} {mg : Str → Option Value} {i : Nat} {tk te fk f} (he : ESim K mg G (fun _ => E1) te f) (hk : ESim K mg G (fun _ => E1) tk fk) : SSim K mg G (fun _ => E1) (sDPut (tVar i) tk te) (mDPut i fk f) := fun w ρ σ D I q => by
  refine he w ρ σ _ I (Good.imp (Good.bind1 q) (fun y S1 h1 => ?_) fun _ _ _ h => h.step I.stp I.gok I.ok)
  intro w1 v e1 s1 k1 rv
  subst e1
  have I1 := I.step s1 k1
  cases hi : ρ[i]? with
  | none => rw [hi] at h1; exact h1.elim
  | some sl =>
    cases sl with
    | none => rw [hi] at h1; exact h1.elim
    | pin c fs => rw [hi] at h1; exact h1.elim
    | own o =>
      cases o with
      | dk ks xs =>
        rw [hi] at h1
        obtain ⟨p, a, b, c, d, vs, r1, r3, r2⟩ := I1.own i _ hi
        refine ⟨.ref p, a, hk w1 ρ σ _ I1 (Good.imp (Good.bind1 h1) (fun k S2 h2 => ?_) fun _ _ _ h => h.step I1.stp I1.gok I1.ok)⟩
        intro w2 u e2 s2 k2 rk
        subst e2
        have I2 := I1.step s2 k2
        unfold setK at h2
        cases ej : keyP k with
        | none => rw [ej] at h2; exact h2.elim
        | some kk =>
          rw [ej] at h2
          obtain ⟨hz, h2⟩ := good_if h2
          have g2 : w2.H p = some (.dK (ks.zip vs)) := s2.keep p _ r1 c
          have hO := s2.omono p b
          have hL : p ∉ w2.L := fun z => by
            rcases s2.lset p z with y | y
            · exact c y
            · rw [r1] at y; cases y
          obtain ⟨vs', p1, p2, p3⟩ := put_rv (k := kk) (rv.mono s2.pre (s2.ext k1.sub)) (r2.mono s2.pre (s2.ext k1.sub)) r3
          have := keyP_rv ej rk
          subst this
          refine ⟨p, upd w2.H p (.dK (putK (ks.zip vs) kk v)), rfl, DPut.k g2 ?_, ?_⟩
          · rw [List.length_zip]
            exact Nat.lt_of_le_of_lt (Nat.min_le_left _ _) (sizeM_lt hz)
          · rw [p1]
            exact h2 (w2.wr p (.dK ((putKs ks kk).zip vs'))) σ rfl (((s1.v I.ok.sub).trans (s2.v k1.sub)).trans (wr_v hO)) (I2.wrOwn hi a hO hL d ⟨vs', rfl, p3, p2⟩)
      | _ => rw [hi] at h1; exact h1.elim
    | val z =>
      cases z with
      | obj n =>
        rw [hi] at h1
        obtain ⟨v0, a, r0⟩ := I1.val i _ hi
        refine ⟨v0, a, hk w1 ρ σ _ I1 (Good.imp (Good.bind1 h1) (fun k S2 h2 => ?_) fun _ _ _ h => h.step I1.stp I1.gok I1.ok)⟩
        intro w2 u e2 s2 k2 rk
        subst e2
        have I2 := I1.step s2 k2
        unfold setKO at h2
        cases ej : keyP k with
        | none => rw [ej] at h2; exact h2.elim
        | some kk =>
          rw [ej] at h2
          cases eS : w2.S[n]? with
          | none => simp only [eS] at h2; exact h2.elim
          | some o =>
            cases o with
            | dk ks xs =>
              simp only [eS] at h2
              obtain ⟨hz, h2⟩ := good_if h2
              have r0' := r0.mono s2.pre (s2.ext k1.sub)
              obtain ⟨p, vs, rfl, hp, r1, r3, r2⟩ := st_dk k2 r0' eS
              have rv2 := rv.mono s2.pre (s2.ext k1.sub)
              obtain ⟨vs', p1, p2, p3⟩ := put_rv (k := kk) rv2 r2 r3
              have := keyP_rv ej rk
              subst this
              have k3 := put2_ok (ho := .dK ((putKs ks kk).zip vs')) (o := .dk (putKs ks kk) (putXs ks xs kk y)) k2 hp ⟨vs', rfl, p3, p2⟩
              have s3 := put2_step (ho := .dK ((putKs ks kk).zip vs')) (o := .dk (putKs ks kk) (putXs ks xs kk y)) k2 hp
              refine ⟨p, upd w2.H p (.dK (putK (ks.zip vs) kk v)), rfl, DPut.k r1 ?_, ?_⟩
              · rw [List.length_zip]
                exact Nat.lt_of_le_of_lt (Nat.min_le_left _ _) (sizeM_lt hz)
              · rw [p1]
                exact h2 (w2.put2 p (.dK ((putKs ks kk).zip vs')) n (.dk (putKs ks kk) (putXs ks xs kk y))) σ rfl (((s1.v I.ok.sub).trans (s2.v k1.sub)).trans (s3.v k2.sub)) (I2.step s3 k3)
            | _ => simp only [eS] at h2; exact h2.elim
      | _ => rw [hi] at h1; exact h1.elim
theorem fs_dput {i : Nat} {x : Str} {px pt pos k e tk te fk f} (hu : X.A.units + 200 < cLine) (hx : PE X (.Name x px) (tVar i)) (hk : FE X G (fun _ => E1) k tk fk) (he : FE X G (fun _ => E1) e te f) (hs : swapsWith e (some (.Subscript (.Name x px) k pt)) pos.line X.env = pure false := by rfl) :
    FS X G (fun _ => E1) (.Assign [.Subscript (.Name x px) k pt] e pos) (sDPut (tVar i) tk te) (mDPut i fk f) := ⟨ps_dput (by omega) hx hk.pe he.pe hs, sim_dput he.sim hk.sim⟩
/-! ### {'a': x, 'b': y} -/
structure FPs (X : Cx) (G : Wd) (E : EK) (pos : Pos) (keys : List (Option Expr)) (values : List Expr) (trs : List (TE × TE)) (ks : List Key) (f : Rho → Store → Res (List PV)) : Prop where
  pe : PPs X pos keys values trs
  all : keys.all (·.isSome) = true
  lk : keys.length = ks.length
  lv : values.length = ks.length
  sim : ∀ w ρ σ (Q : List (V × V) → Hp → Prop), FI X.K G w ρ σ → Good (f ρ w.S) (fun xs S' => ∀ w' vs, w'.S = S' → WStep w w' → WOk X.K w' → RVs X.K w'.L w'.hc xs vs → xs.length = ks.length → Q ((ks.zip vs).map fun kv => (kV kv.1, kv.2)) w'.H) (ExP X.K X.mg (E σ) w) → tPairs trs σ w.H Q
theorem fps_nil {pos : Pos} : FPs X G E pos [] [] [] [] mNil := ⟨pps_nil, rfl, rfl, rfl, fun w ρ σ Q I h => h w [] rfl (WStep.refl I.ok.sub) I.ok rfl rfl⟩
theorem fps_cons {pos : Pos} {k v : Expr} {keys : List (Option Expr)} {vs : List Expr} {tv : TE} {trs : List (TE × TE)} {ks : List Key} {kk : Key} {f g} (hk : PE X k (tC (kV kk))) (hv : FE X G E v tv f) (hr : FPs X G E pos keys vs trs ks g) :
    FPs X G E pos (some k :: keys) (v :: vs) ((tC (kV kk), tv) :: trs) (kk :: ks) (mCons f g) := ⟨pps_cons hk hv.pe hr.pe, by rw [List.all_cons, hr.all]; rfl, by rw [List.length_cons, List.length_cons, hr.lk], by rw [List.length_cons, List.length_cons, hr.lv], fun w ρ σ Q I h => by
  refine hv.sim w ρ σ _ I (Good.imp (Good.bind1 h) (fun x S1 h1 => ?_) fun _ _ _ h => h)
  intro w1 v e1 s1 k1 r1
  subst e1
  refine hr.sim w1 ρ σ _ (I.step s1 k1) (Good.imp (Good.bind1 h1) (fun xs S2 h2 => ?_) fun _ _ _ h => h.step s1 I.ok k1)
  intro w2 vs e2 s2 k2 r2 hl
  subst e2
  exact h2 w2 (v :: vs) rfl (s1.tr s2 I.ok k1) k2 (RVs.cons (r1.mono s2.pre (s2.ext k1.sub)) r2) (by rw [List.length_cons, List.length_cons, hl])⟩
theorem merge_nodup : ∀ {more kvs : List (Key × V)}, (more.map (·.1)).Nodup → (∀ p ∈ more, ∀ q ∈ kvs, q.1 ≠ p.1) → mergeK kvs more = kvs ++ more
  | [], kvs, _, _ => by simp [mergeK]
  | p :: more, kvs, nd, h => by
    have nd' := List.nodup_cons.mp nd
    have e : putK kvs p.1 p.2 = kvs ++ [p] := by
      unfold putK
      have : (kvs.any fun kv => decide (kv.1 = p.1)) = false := by
        rw [List.any_eq_false]
        intro q hq
        have := h p List.mem_cons_self q hq
        simpa using this
      rw [this, if_neg Bool.false_ne_true]
    show mergeK (putK kvs p.1 p.2) more = _
    rw [e, merge_nodup (kvs := kvs ++ [p]) nd'.2 (fun q hq r hr => ?_)]
    · simp
    · rcases List.mem_append.mp hr with hr | hr
      · exact h q (List.mem_cons_of_mem _ hq) r hr
      · rw [List.mem_singleton.mp hr]
        intro z
        exact nd'.1 (List.mem_map.mpr ⟨q, hq, z.symm⟩)
def mDisp (ks : List Key) (f : Rho → Store → Res (List PV)) : Rho → Store → Res SO := fun ρ S => (f ρ S).bind fun xs S1 => if xs.length = ks.length then .ok (.dk ks xs) S1 else .bad
theorem zip_keys : ∀ {ks : List Key} {vs : List V}, vs.length = ks.length → (ks.zip vs).map (·.1) = ks
  | [], _, _ => rfl
  | _ :: _, [], l => by simp at l
  | k :: ks, v :: vs, l => by rw [List.zip_cons_cons, List.map_cons, zip_keys (by simpa using l)]
theorem fn_disp {pos : Pos} {keys : List (Option Expr)} {values : List Expr} {trs : List (TE × TE)} {ks : List Key} {f} (h : FPs X G E pos keys values trs ks f) (h0 : keys ≠ [] := by exact List.cons_ne_nil _ _) (h15 : ks.length ≤ 15 := by decide) (nd : ks.Nodup := by decide) :
    FN X G E (.Dict keys values pos) (tDisp trs) (mDisp ks f) := ⟨pe_disp h.pe h.all (by rw [h.lk, h.lv]) h0 (by rw [h.lk]; exact h15), fun w ρ σ Q I q p hp => by
  have k1 := laid_ok (o := .dK []) I.ok hp
  have s1 := laid_step (o := .dK []) I.ok hp
  have nL : p ∉ (w.laid p (.dK [])).L := I.ok.ninL hp
  refine h.sim (w.laid p (.dK [])) ρ σ _ (I.step s1 k1) (Good.imp (Good.bind1 q) (fun xs S1 h1 => ?_) fun _ _ _ h => h.step s1 I.ok k1)
  intro w2 vs e2 s2 k2 r2 hl
  obtain ⟨_, h1⟩ := good_if h1
  have lv : vs.length = ks.length := by rw [r2.len, hl]
  have g2 : w2.H p = some (.dK []) := s2.keep p _ upd_same nL
  have hO : p ∈ w2.O := s2.omono p List.mem_cons_self
  have hL : p ∉ w2.L := fun z => by
    rcases s2.lset p z with y | y
    · exact nL y
    · rw [show (w.laid p (.dK [])).H p = some (.dK []) from upd_same] at y; cases y
  refine ⟨g2, ks.zip vs, rfl, ?_, ?_⟩
  · rw [List.length_zip]
    omega
  · rw [merge_nodup (by rw [zip_keys lv]; exact nd) (fun _ _ _ hq => absurd hq List.not_mem_nil), List.nil_append]
    have s12 := s1.tr s2 I.ok k1
    refine h1 (w2.wr p (.dK (ks.zip vs))) p e2 (wr_step s12 hp) (wr_ok k2 hO hL) hp hO hL ?_
    show SOk X.K w2.L (cut (upd w2.H p (.dK (ks.zip vs))) w2.O) (upd w2.H p (.dK (ks.zip vs)) p) (.dk ks xs)
    rw [upd_cut hO, upd_same]
    exact ⟨vs, rfl, hl, r2⟩⟩
end
end Mir
set_option maxHeartbeats 4000000
/-! MirB0: enumerate of a tuple. -/
namespace PySem
open AutoSeq1 (wpAny_loadPart')
open Sem (wp)
theorem meetsEnumT (t : Addr) (ys : Array Value) (m : Nat) (dd : Option Addr) (ss : Array (Option Value)) : Meets (Builtin.«enumerate.__new__» ⟨[.type "enumerate", .ref t], []⟩) (fun _ R s => s.heap.get? t = some { cls := .type "tuple", dict := dd, data := .seq ys m, slots := ss } ∧ R (.ok (.ret (.ref (s.heap.push { cls := .type "tuple_iterator", data := .fields #[.ref t, .int 0 0] }).objs.size))) { s with heap := (s.heap.push { cls := .type "tuple_iterator", data := .fields #[.ref t, .int 0 0] }).push { cls := .type "enumerate", data := .fields #[.none, .bool false, .ref s.heap.objs.size, rawInt 0, .none, .none] } }) :=
  .of_wp fun prog w A R sh q => by
    obtain ⟨hp, g1, d1, t1, o1⟩ := sh
    obtain ⟨ht, q⟩ := q
    have sub1 := sub_enumerate
    have T : Heap.IsTuple (Shared.heap ⟨hp, g1, d1, t1, o1⟩) t ys := ⟨_, ht, rfl, m, rfl⟩
    wp_walk using wpAny_loadPart' ht
    refine wpAny_stack_any fun _ => wpAny_pure ?_
    split
    · rename_i cc _ _ _ _ _
      cases (cc == Value.type "enumerate") <;> (wp_walk using wpAny_loadPart' ht, wpAny_pyIter_tuple T; exact ⟨_, rfl, q⟩)
    · wp_walk using wpAny_loadPart' ht, wpAny_pyIter_tuple T
      exact ⟨_, rfl, q⟩
section
variable {prog : Program} {w : World} {A : Around} {E : Value → Shared → Prop} {s : Shared}
theorem callEnumT {t : Addr} {ys : Array Value} {Q : Value → Shared → Prop} (T : s.heap.IsTuple t ys)
    (q : ∀ h', IsEnum h' (s.heap.objs.size + 1) s.heap.objs.size 0 .none → h'.IsTupleIter s.heap.objs.size t 0 → (∀ b o, s.heap.get? b = some o → h'.get? b = some o) → Q (.ref (s.heap.objs.size + 1)) { s with heap := h' }) :
    wpAny (model prog w) A (call (.type "enumerate") [.ref t]) Q E s := by
  obtain ⟨⟨cc, dd, da, ss⟩, ht, ec, m, ed⟩ := T
  simp only at ec ed
  subst ec ed
  refine callType_new F.called_enumerate (by decide) (F.typeCall_enumerate_1 _) (F.newCall_enumerate_1 _) (fun ob => F.args_object_init_2 ob _) F.entry_enumerate_new (meetsEnumT t ys m dd ss) ⟨ht, ?_⟩
  have z1 : (s.heap.push { cls := .type "tuple_iterator", data := .fields #[.ref t, .int 0 0] }).objs.size = s.heap.objs.size + 1 := Heap.size_push ..
  show _ ∧ _
  rw [z1]
  have en : IsEnum ((s.heap.push { cls := .type "tuple_iterator", data := .fields #[.ref t, .int 0 0] }).push { cls := .type "enumerate", data := .fields #[.none, .bool false, .ref s.heap.objs.size, rawInt 0, .none, .none] }) (s.heap.objs.size + 1) s.heap.objs.size 0 .none := by
    have z2 := Heap.get?_push_size (s.heap.push { cls := .type "tuple_iterator", data := .fields #[.ref t, .int 0 0] }) (o := { cls := .type "enumerate", data := .fields #[.none, .bool false, .ref s.heap.objs.size, rawInt 0, .none, .none] }) rfl
    rw [z1] at z2
    exact z2
  exact ⟨⟨_, en, rfl⟩, q _ en ⟨_, Heap.get?_push_of_some _ (Heap.get?_push_size _ rfl), rfl, rfl⟩ fun b o e => Heap.get?_push_of_some _ (Heap.get?_push_of_some _ e)⟩
theorem drawsTup (hh : A.handled = none) (it t : Addr) (ne : t ≠ it) (ys : Array Value) : Draws prog w A it [it, t] ys.size (fun i v => ys[i]? = some v) (fun i h => h.IsTupleIter it t i ∧ h.IsTuple t ys) where
  live := fun _ _ st => let ⟨o, e, _⟩ := st.1; ⟨o, e⟩
  frame := fun _ _ _ st k => ⟨st.1.at fun o e => k it (by simp) o e, by
    obtain ⟨o, e, r⟩ := st.2
    exact ⟨o, k t (by simp) o e, r⟩⟩
  item := fun i s Q E hi st q => by
    refine RZ.nextOf_tuple_item st.1 st.2 (x := ys[i]) (by simp [hi]) fun h' i' sb => ?_
    exact q _ h' s.toks (by simp [hi]) ⟨i', st.2.extBut sb.extBut ne⟩ sb
  done := fun s Q E st q => RZ.nextOf_tuple_end hh st.1 st.2 (by simp) q
theorem enumEndT {e it t : Addr} {j : Int} {i : Nat} {ys : Array Value} {old : Value} {Q : Option Value → Shared → Prop} (hh : A.handled = none) (en : IsEnum s.heap e it j old) (ti : s.heap.IsTupleIter it t i) (T : s.heap.IsTuple t ys) (out : ys[i]? = none)
    (q : ∀ h', Heap.ExtBut it s.heap h' → Q none { s with heap := h' }) : wpAny (model prog w) A (pyNext (.ref e)) Q E s := by
  have tE : s.TypeIs (.ref e) "enumerate" := ⟨_, en, rfl⟩
  unfold pyNext
  refine wpAny_bind (wpAny_attempt (wpAny_callSpecial?_slot (name := Str.ofString "__next__") tE F.slot_enumerate_next (wpAny_call_entry F.slot_enumerate_next tE F.entry_enumerate_next ?_ (F.args_enumerate_next_1 _))))
  show wpAny _ _ (field (.ref e) 2 >>= _) _ _ _
  refine wpAny_bind (wpAny_field en rfl (x := .ref it) rfl (wpAny_bind (RZ.nextOf_tuple_end hh ti T out fun h' x eb hx => ?_)))
  obtain ⟨o, ho, ec⟩ := hx
  exact wpAny_bind (wpAny_isInstance (T := "StopIteration") (b := true) ⟨o, ho, ec⟩ isSubtype_stop (wpAny_pure (q _ eb)))
end
end PySem
namespace L2
open PySem PySem.Spec PyProof.Rows
/-- the tuple at a, each item in a new pair -/
def IteT (K : PySem.W.Frag) (a : Addr) : It :=
  ⟨fun i H => ∃ (xs : List V) (x : V), SqT K H a xs ∧ xs[i]? = some x, fun i H v H' => ∃ T x, v = .ref T ∧ H T = none ∧ H' = upd H T (.tup [.int (i : Nat), x]) ∧ ∀ xs, SqT K H a xs → xs[i]? = some x, fun i H => ∃ xs : List V, SqT K H a xs ∧ xs.length ≤ i⟩
theorem turn_enumT {P : Program} {w : World} {K : PySem.W.Frag} {elts : List Expr} {kk : Nat} {tpos : Pos} (a e it : Addr) (nai : a ≠ it) (nae : a ≠ e) :
    Turn P w K (.Tuple elts kk tpos) (IteT K a) [e, it] e (fun i h => (∃ old, IsEnum h e it ((i : Nat) : Int) old) ∧ h.IsTupleIter it a i ∧ e ≠ it) where
  mem := by simp
  obj := fun i h st b hb => by
    obtain ⟨⟨old, he⟩, ⟨o, ho, _, hd⟩, _⟩ := st
    rcases (show b = e ∨ b = it by simpa using hb) with rfl | rfl
    · exact ⟨_, he, fun v q => nomatch q⟩
    · exact ⟨o, ho, fun v q => by rw [hd] at q; cases q⟩
  keep := fun i h h' st k => let ⟨⟨old, he⟩, hi, ne⟩ := st; ⟨⟨old, k e (by simp) _ he⟩, hi.at fun o q => k it (by simp) o q, ne⟩
  item := by
    intro X hP hw hK hc i pins s σ H E I hf st hg
    subst hP hw hK
    obtain ⟨⟨old, he⟩, hit, hne⟩ := st
    obtain ⟨xs, x, hq, hx⟩ := hg
    obtain ⟨its, rv, p, hz⟩ := I.tuple hq
    obtain ⟨u, hu, ru⟩ := rv.get hx
    have hel : e < s.heap.objs.size := Heap.lt_size he
    have hil : it < s.heap.objs.size := by obtain ⟨_, q, _⟩ := hit; exact Heap.lt_size q
    have pT : s.heap.IsTuple a its.toArray := p
    have hlt : i < its.toArray.size := by
      have := (List.getElem?_eq_some_iff.mp hu).1
      simpa using this
    have D := drawsTup (prog := X.prog) (w := X.w) (A := X.A.in1) (I.ok.hd hc) it a nai its.toArray
    refine wpAny_pyNext_enum_itemD D he ⟨hit, pT⟩ hlt hne (by simp [hne, Ne.symm nae]) fun y h' tk hy ho hst hT hsz hk => ?_
    have ey : y = u := by
      have : its.toArray[i]? = some u := by simpa using hu
      rw [this] at hy
      exact (Option.some.inj hy).symm
    subst ey
    refine ⟨_, rfl, wpAny_letOwnedTupleGo_enum (s := { s with heap := h', toks := tk + 1 }) ho fun h'' he' sb => ?_⟩
    have hT2 : h''.get? s.heap.objs.size = some { cls := .type "tuple", data := .seq #[.int i tk, y] } := (sb.2 _ (Nat.ne_of_gt hel)).trans hT
    have new : ObjOk X.prog X.w (upd H s.heap.objs.size (.tup [.int (i : Nat), x])) h'' s.heap.objs.size (.tup [.int (i : Nat), x]) :=
      ⟨by show 2 ≤ sizeLine; decide, [.int i tk, y], .cons ⟨_, rfl⟩ (.cons ru .nil), ⟨_, hT2, rfl, _, rfl⟩⟩
    have I1 : Inv X pins σ (upd H s.heap.objs.size (.tup [.int (i : Nat), x])) { s with heap := h'', toks := tk + 1 } :=
      I.turnedNew (ch := [e, it]) (fun b ob hb q => (sb.2 b (fun z => hb (by simp [z]))).trans (hk b ob (fun z => hb (by simp [z])) (fun z => hb (by simp [z])) q)) hf (Nat.le_refl _) new
    refine ⟨.ref s.heap.objs.size, _, I1, rfl, ⟨_, x, rfl, I.hok.fresh (Nat.le_refl _), rfl, fun ys hy => ?_⟩, ⟨⟨y, ?_⟩, hst.1.at fun o q => (sb.2 it (Ne.symm hne)).trans q, hne⟩, fun b hb => ?_⟩
    · rw [I.tuple_inj hy hq]; exact hx
    · have e1 : ((i + 1 : Nat) : Int) = (i : Int) + 1 := by omega
      rw [e1]; exact he'
    · have hb' : b < s.heap.objs.size := by
        rcases (show b = e ∨ b = it by simpa using hb) with rfl | rfl
        · exact hel
        · exact hil
      rw [upd_ne (Nat.ne_of_lt hb')]
      exact (hf b hb).1
  done := by
    intro X hP hw hK hc i pins s σ H E I hf st hg
    subst hP hw hK
    obtain ⟨⟨old, he⟩, hit, hne⟩ := st
    obtain ⟨xs, hq, hx⟩ := hg
    obtain ⟨its, rv, p, hz⟩ := I.tuple hq
    have pT : s.heap.IsTuple a its.toArray := p
    obtain ⟨f0, f1, f2, f3, f4, f5⟩ := hf it (by simp)
    have hl := rv.length
    exact enumEndT (I.ok.hd hc) he hit pT (by simp; omega) fun h' eb => ⟨rfl, I.turned (t' := s.toks) (fun b o hb q => eb b o hb q) f0 f1 f3 f4 f5⟩
  self := fun A i s Q E st h => let ⟨⟨_, he⟩, _⟩ := st; wpAny_pyIter_enum he h
def iEnumT (K : PySem.W.Frag) (ta : TA) : TI := fun σ H R => ta σ H fun vs H1 => ∃ a xs, vs = [.ref a] ∧ SqT K H1 a xs ∧ R (IteT K a) H1
theorem pi_enumT {X : Cx} {e : Expr} {ta : TA} {p pos tpos : Pos} {elts : List Expr} {kk : Nat} (hg : Gl X "enumerate") (hm : X.mg "enumerate" = none) (ha : PA X [e] ta) (hs : starEach [e] X.env = [(false, eval e X.env)] := by rfl) :
    PI X (.Tuple elts kk tpos) (.Call (.Name "enumerate" p) [e] [] pos) (iEnumT X.K ta) := by
  refine ⟨fun pins s σ H R I h => ?_⟩
  refine Call_ (ld_blt I hg hm boot_enumerate (PyProof.Rows.callWith_type1 (thn (ha.run pos pins s σ H _ I h) fun us s1 ⟨vs, H1, I1, r1, q1⟩ => ?_) hs rfl))
  obtain ⟨a, xs, ex, hq, q⟩ := q1
  subst ex
  cases r1 with
  | cons r rr =>
    cases rr
    cases r
    obtain ⟨its, rv, pT, hz⟩ := I1.tuple hq
    refine PySem.callEnumT pT fun h' he hit hk => wpAny_pyIter_enum he ?_
    have I2 : Inv X pins σ H1 { s1 with heap := h' } := I1.kept (t' := s1.toks) hk
    have la : a < s1.heap.objs.size := pT.lt
    refine ⟨s1.heap.objs.size + 1, [s1.heap.objs.size + 1, s1.heap.objs.size], _, _, H1, rfl, I2, turn_enumT a (s1.heap.objs.size + 1) s1.heap.objs.size (Nat.ne_of_lt la) (Nat.ne_of_lt (Nat.lt_succ_of_lt la)), ⟨⟨.none, he⟩, hit, Nat.succ_ne_self _⟩, fun b hb => ?_, q⟩
    have hle : s1.heap.objs.size ≤ b := by
      rcases (show b = s1.heap.objs.size + 1 ∨ b = s1.heap.objs.size by simpa using hb) with rfl | rfl <;> omega
    exact I1.fpOk hle (I1.hok.fresh hle)
end L2
set_option maxHeartbeats 4000000
/-! MirB1: t[::-1] of a tuple. -/
namespace HT
open PySem PyProof.Rows
section
variable {prog : Program} {w : World} {A : Around} {E : Value → Shared → Prop} {s : Shared}
theorem adjR (n : Nat) : Builtin.Slice.sliceAdjust none none (-1) (n : Int) = ((n : Int) - 1, -1) := by
  unfold Builtin.Slice.sliceAdjust
  simp only [show ((-1 : Int) < 0) from by decide, if_true]
theorem plcR (n : Nat) : Builtin.Slice.slicePlaces ((n : Int) - 1) (-1) (-1) = n := by
  unfold Builtin.Slice.slicePlaces
  rw [if_neg (show ¬ ((-1 : Int) > 0) by decide)]
  by_cases h : (n : Int) - 1 > -1
  · rw [if_pos h, show (- -1 : Int) = 1 by decide, Int.ediv_one]
    omega
  · rw [if_neg h]
    omega
theorem fm_congr {α β : Type} {f g : α → Option β} : ∀ {l : List α}, (∀ x ∈ l, f x = g x) → l.filterMap f = l.filterMap g
  | [], _ => rfl
  | x :: l, h => by rw [List.filterMap_cons, List.filterMap_cons, h x List.mem_cons_self, fm_congr fun y hy => h y (List.mem_cons_of_mem _ hy)]
theorem pickR (xs : Array Value) : ((List.range xs.size).filterMap fun (m : Nat) => xs[(((xs.size : Int) - 1) + (m : Int) * (-1)).toNat]?).toArray = xs.toList.reverse.toArray := by
  have e : ((List.range xs.size).filterMap fun (m : Nat) => xs[(((xs.size : Int) - 1) + (m : Int) * (-1)).toNat]?) = ((List.range xs.size).map fun k => xs.size - 1 - k).filterMap (xs[·]?) := by
    rw [List.filterMap_map]
    refine fm_congr fun m hm => ?_
    have hm := List.mem_range.mp hm
    have : (((xs.size : Int) - 1) + (m : Int) * (-1)).toNat = xs.size - 1 - m := by omega
    show xs[_]? = xs[_]?
    rw [this]
  rw [e, PySem.W.krv_range, List.filterMap_reverse, PySem.W.krv_all]
theorem getTupR {t sl : Addr} {ys : Array Value} {vs : Value} {Q : Value → Shared → Prop} (ht : IsTup s.heap t ys) (hs : s.heap.IsSliceOf sl .none .none vs) (ps : IsPart vs (some (-1)))
    (q : Q (.ref s.heap.objs.size) { s with heap := s.heap.push { cls := .type "tuple", data := .seq ys.toList.reverse.toArray } }) (hz : ys.size ≤ sizeLine) : wpAny (model prog w) A (getItem (.ref t) (.ref sl)) Q E s := by
  have fit : sizeOk (.seq ys.toList.reverse.toArray) := by
    show ys.toList.reverse.toArray.size ≤ sizeLine
    rw [List.size_toArray, List.length_reverse, Array.length_toList]
    exact hz
  obtain ⟨os, hos, hcs, hds⟩ := id hs
  have tS : s.TypeIs (.ref sl) "slice" := ⟨os, hos, hcs⟩
  unfold getItem
  try with_reducible refine wpAny_holding ?_
  first | refine wpAny_bind (wpAny_pure ?_) | skip
  refine wpAny_bind (wpAny_sequenceKey ht.typeIs (by decide) (wpAny_bind (wpAny_callSpecial?_slot (name := Str.ofString "__getitem__") ht.typeIs PyProof.Rows.slot_tuple_getitem (wpAny_call_entry PyProof.Rows.slot_tuple_getitem ht.typeIs entry_tuple_getitem ?_ (args_tuple_getitem _ _)))))
  show wpAny _ _ (Builtin.Tuple.tupleItemsOf (.ref t) >>= _) _ _ s
  refine wpAny_bind (tupleItemsOf_ ht (wpAny_bind (wpAny_typeOf tS ?_)))
  rw [if_pos (by decide)]
  refine wpAny_bind ?_
  unfold Builtin.Slice.sliceApplied Builtin.Slice.sliceFields
  refine wpAny_bind (wpAny_bind (wpAny_field hos hds (x := .none) rfl (wpAny_bind (wpAny_field hos hds (x := .none) rfl (wpAny_bind (wpAny_field hos hds (x := vs) rfl (wpAny_pure ?_)))))))
  refine wpAny_bind (slicePart_ ps ?_)
  show wpAny _ _ (if ((-1 : Int) == 0) = true then _ else _) _ _ s
  rw [if_neg (by decide)]
  refine wpAny_bind (slicePart_none (wpAny_bind (slicePart_none (wpAny_bind (wpAny_pure ?_)))))
  show wpAny _ _ (match Builtin.Slice.sliceAdjust none none (-1) (ys.size : Int) with | (lo, hi) => pure (lo, (-1 : Int), Builtin.Slice.slicePlaces lo hi (-1))) _ _ s
  rw [adjR]
  show wpAny _ _ (pure (((ys.size : Int) - 1), (-1 : Int), Builtin.Slice.slicePlaces ((ys.size : Int) - 1) (-1) (-1))) _ _ s
  rw [plcR]
  refine wpAny_pure ?_
  show wpAny _ _ (if (((ys.size : Int) - 1) == 0 && (-1 : Int) == 1 && ys.size == ys.size) = true then _ else _) _ _ s
  rw [if_neg (by simp), pickR]
  first
    | exact wpAny_bind (m := Builtin.Tuple.tupleExact _) (wpAny_newObj_type (wpAny_pure ⟨_, rfl, wpAny_pure q⟩) fit)
    | exact wpAny_bind (wpAny_bind (m := Builtin.Tuple.tupleExact _) (wpAny_newObj_type (wpAny_pure (wpAny_pure ⟨_, rfl, wpAny_pure q⟩)) fit))
    | exact wpAny_bind (wpAny_bind (m := Builtin.Tuple.tupleExact _) (wpAny_newObj_type (wpAny_pure ⟨_, rfl, wpAny_pure q⟩) fit))
end
end HT
namespace L2
open PySem PySem.Spec PyProof.Rows
/-- t[::-1] -/
def tRevT (K : PySem.W.Frag) (te : TE) : TE := fun σ H Q => te σ H fun x H1 => ∃ a xs, x = .ref a ∧ SqT K H1 a xs ∧ ∀ p, H1 p = none → Q (.ref p) (upd H1 p (.tup xs.reverse))
section
variable {X : Cx}
theorem pe_revT {e : Expr} {te : TE} {k : Nat} {p1 p2 p3 pos : Pos} (he : PE X e te) : PE X (.Subscript e (.Slice none none (some (.UnaryOp .USub (.Constant (.int 1) k p1) p2)) p3) pos) (tRevT X.K te) := by
  refine ⟨fun pins s σ H Q I h => Subscript_ (thn (he.run pins s σ H _ I h) fun v s1 ⟨x, H1, I1, r1, q1⟩ => ?_)⟩
  obtain ⟨a, xs, ex, hx, q⟩ := q1
  subst ex
  cases r1
  have st : PO X (some (.UnaryOp .USub (.Constant (.int 1) k p1) p2)) (tPart (tUn (rU fun i => .int (-i)) (tC (.int 1)))) := po_some (pe_un un_neg pe_int)
  refine wpAny_Slice (thn (po_none.run pins s1 σ H1 (fun o H2 => o = none ∧ H2 = H1) I1 ⟨rfl, rfl⟩) fun vl s2 ⟨l, H2, I2, pl, el, e2⟩ => ?_)
  subst el e2
  refine thn (po_none.run pins s2 σ H2 (fun o H3 => o = none ∧ H3 = H2) I2 ⟨rfl, rfl⟩) fun vu s3 ⟨u, H3, I3, pu, eu, e3⟩ => ?_
  subst eu e3
  refine thn (st.run pins s3 σ H3 (fun o H4 => o = some (-1) ∧ H4 = H3) I3 ⟨1, rfl, -1, rfl, rfl, rfl⟩) fun vs s4 ⟨o, H4, I4, ps, eo, e4⟩ => ?_
  subst eo e4
  cases pl
  cases pu
  have I5 : Inv X pins σ H4 { s4 with heap := s4.heap.push { cls := .type "slice", data := .fields #[.none, .none, vs] } } := I4.kept (t' := s4.toks) fun b ob z => Heap.get?_push_of_some _ z
  obtain ⟨its, r, ht, hz⟩ := I5.tuple hx
  have hl := r.length
  show wpAny (model X.prog X.w) X.A (subscriptTail e (.Slice none none (some (.UnaryOp .USub (.Constant (.int 1) k p1) p2)) p3) (.ref a) (.ref s4.heap.objs.size)) (EP X pins σ Q) X.xe { s4 with heap := s4.heap.push { cls := .type "slice", data := .fields #[.none, .none, vs] } }
  refine tail_any (ops := [.ref a, .ref s4.heap.objs.size]) ht.typeIs PyProof.Rows.slot_tuple_getitem.lookup ?_ (by with_unfolding_all rfl)
  refine HT.getTupR ht (Heap.IsSliceOf.new _ .none .none vs) ps ?_ (by rw [List.size_toArray]; omega)
  refine ⟨.ref _, _, I5.laid (t' := s4.toks) (o := .tup xs.reverse) (fun b ob z => Heap.get?_push_of_some _ z) (Nat.le_refl _) ?_, rfl, q _ (I5.hok.fresh (Nat.le_refl _))⟩
  exact ⟨by rw [List.length_reverse]; exact hz, its.reverse, r.reverse, ⟨_, Heap.get?_push_size _ rfl, rfl, _, rfl⟩⟩
end
end L2
set_option maxHeartbeats 4000000
/-! MirB: enumerate, zip, range with a step, reversed slices, order of tuples, not in, truth of lists. -/
namespace Mir
open PySem PySem.Spec PyProof.Rows L2
section
variable {X : Cx} {G : Wd} {E : EK} {E1 : XK} (K : PySem.W.Frag)
/-! ### enumerate, zip -/
def enumP (i : Nat) : List PV → List PV
  | [] => []
  | x :: r => .tup [.int i, x] :: enumP (i + 1) r
def zipP : List PV → List PV → List PV
  | x :: xs, y :: ys => .tup [x, y] :: zipP xs ys
  | _, _ => []
theorem enumP_get : ∀ {xs : List PV} {i j : Nat}, (enumP i xs)[j]? = xs[j]?.map fun x => PV.tup [.int ((i + j : Nat) : Int), x]
  | [], _, _ => by simp [enumP]
  | x :: xs, i, 0 => rfl
  | x :: xs, i, j + 1 => by
    show (enumP (i + 1) xs)[j]? = _
    rw [enumP_get, show i + 1 + j = i + (j + 1) by omega]
    rfl
theorem enumP_len : ∀ {xs : List PV} {i : Nat}, (enumP i xs).length = xs.length
  | [], _ => rfl
  | x :: xs, i => by simp [enumP, enumP_len]
theorem zipP_get : ∀ {xs ys : List PV} {j : Nat} {z : PV}, (zipP xs ys)[j]? = some z → ∃ x y, xs[j]? = some x ∧ ys[j]? = some y ∧ z = .tup [x, y]
  | [], _, _, _, h => by simp [zipP] at h
  | _ :: _, [], _, _, h => by simp [zipP] at h
  | x :: xs, y :: ys, 0, z, h => by
    simp [zipP] at h
    exact ⟨x, y, rfl, rfl, h.symm⟩
  | x :: xs, y :: ys, j + 1, z, h => by
    have h : (zipP xs ys)[j]? = some z := h
    obtain ⟨a, b, h1, h2, h3⟩ := zipP_get h
    exact ⟨a, b, h1, h2, h3⟩
theorem zipP_len : ∀ {xs ys : List PV}, (zipP xs ys).length = min xs.length ys.length
  | [], _ => by simp [zipP]
  | _ :: _, [] => by simp [zipP]
  | x :: xs, y :: ys => by
    simp only [zipP, List.length_cons, zipP_len]
    omega
def gEnum : List PV → Store → Res (List PV)
  | [.tup xs], S => .ok (enumP 0 xs) S
  | [.lst xs], S => .ok (enumP 0 xs) S
  | [.cl xs], S => .ok (enumP 0 xs) S
  | _, _ => .bad
def gZip : List PV → Store → Res (List PV)
  | [.tup xs, .tup ys], S => .ok (zipP xs ys) S
  | [.lst xs, .lst ys], S => .ok (zipP xs ys) S
  | [.cl xs, .lst ys], S => .ok (zipP xs ys) S
  | [.lst xs, .cl ys], S => .ok (zipP xs ys) S
  | _, _ => .bad
theorem pair_put {K : PySem.W.Frag} {w : Wd} {T : Addr} {x y : PV} {v u : V} (k : WOk K w) (hT : w.H T = none) (rx : RV K w.L w.hc x v) (ry : RV K w.L w.hc y u) : RV K (w.put T (.tup [v, u])).L (w.put T (.tup [v, u])).hc (.tup [x, y]) (.ref T) :=
  ⟨T, [v, u], rfl, .inl (.inl (put_at k hT)), RVs.cons (rx.mono (List.prefix_refl _) (put_ext hT)) (RVs.cons (ry.mono (List.prefix_refl _) (put_ext hT)) rfl)⟩
theorem itok_enum {w1 : Wd} {a : Addr} {xs : List PV} {vs : List V} (ha : SqL K w1.hc a vs) (r : RVs K w1.L w1.hc xs vs) : ItOk K w1 (Ite K a) (enumP 0 xs) := fun i w' s k => by
  have h1 : SqL K w'.H a vs := hc_sqL (sqL_mono s.ext ha)
  have r' := r.mono s.pre s.ext
  refine ⟨fun x e => ?_, fun e => ⟨vs, h1, by rw [r.len]; rw [enumP_len] at e; exact e⟩⟩
  rw [enumP_get] at e
  cases ex : xs[i]? with
  | none => rw [ex] at e; cases e
  | some y =>
    rw [ex] at e
    cases e
    obtain ⟨v, h2, h3⟩ := r'.get ex
    refine ⟨⟨vs, v, h1, h2⟩, fun u H' hy => ?_⟩
    obtain ⟨T, z, rfl, hT, rfl, hz⟩ := hy
    have ez : z = v := by
      have := hz vs h1
      rw [h2] at this
      exact (Option.some.inj this).symm
    subst ez
    exact ⟨w'.put T (.tup [.int (i : Nat), z]), rfl, rfl, put_step k hT, put_ok k hT, pair_put k hT (by rw [Nat.zero_add]; rfl) h3⟩
theorem itok_enumT {w1 : Wd} {a : Addr} {xs : List PV} {vs : List V} (ha : SqT K w1.hc a vs) (r : RVs K w1.L w1.hc xs vs) : ItOk K w1 (IteT K a) (enumP 0 xs) := fun i w' s k => by
  have h1 : SqT K w'.H a vs := hc_sqT (sqT_mono s.ext ha)
  have r' := r.mono s.pre s.ext
  refine ⟨fun x e => ?_, fun e => ⟨vs, h1, by rw [r.len]; rw [enumP_len] at e; exact e⟩⟩
  rw [enumP_get] at e
  cases ex : xs[i]? with
  | none => rw [ex] at e; cases e
  | some y =>
    rw [ex] at e
    cases e
    obtain ⟨v, h2, h3⟩ := r'.get ex
    refine ⟨⟨vs, v, h1, h2⟩, fun u H' hy => ?_⟩
    obtain ⟨T, z, rfl, hT, rfl, hz⟩ := hy
    have ez : z = v := by
      have := hz vs h1
      rw [h2] at this
      exact (Option.some.inj this).symm
    subst ez
    exact ⟨w'.put T (.tup [.int (i : Nat), z]), rfl, rfl, put_step k hT, put_ok k hT, pair_put k hT (by rw [Nat.zero_add]; rfl) h3⟩
theorem itok_zip {w1 : Wd} {a b : Addr} {xs ys : List PV} {vs us : List V} (ha : SqL K w1.hc a vs) (r : RVs K w1.L w1.hc xs vs) (hb : SqL K w1.hc b us) (r2 : RVs K w1.L w1.hc ys us) : ItOk K w1 (Itz K a b) (zipP xs ys) := fun i w' s k => by
  have h1 : SqL K w'.H a vs := hc_sqL (sqL_mono s.ext ha)
  have h2 : SqL K w'.H b us := hc_sqL (sqL_mono s.ext hb)
  refine ⟨fun x e => ?_, fun e => ⟨vs, us, h1, h2, by rw [r.len, r2.len]; rw [zipP_len] at e; omega⟩⟩
  obtain ⟨y, z, e1, e2, rfl⟩ := zipP_get e
  obtain ⟨v, g1, g2⟩ := (r.mono s.pre s.ext).get e1
  obtain ⟨u, g3, g4⟩ := (r2.mono s.pre s.ext).get e2
  refine ⟨⟨vs, us, v, u, h1, h2, g1, g3⟩, fun q H' hy => ?_⟩
  obtain ⟨T, p1, p2, rfl, hT, rfl, q1, q2⟩ := hy
  have e3 := q1 vs h1
  have e4 := q2 us h2
  rw [g1] at e3
  rw [g3] at e4
  cases e3
  cases e4
  exact ⟨w'.put T (.tup [v, u]), rfl, rfl, put_step k hT, put_ok k hT, pair_put k hT g2 g4⟩
theorem itok_zipT {w1 : Wd} {a b : Addr} {xs ys : List PV} {vs us : List V} (ha : SqT K w1.hc a vs) (r : RVs K w1.L w1.hc xs vs) (hb : SqT K w1.hc b us) (r2 : RVs K w1.L w1.hc ys us) : ItOk K w1 (RZ.ItzT K a b) (zipP xs ys) := fun i w' s k => by
  have h1 : SqT K w'.H a vs := hc_sqT (sqT_mono s.ext ha)
  have h2 : SqT K w'.H b us := hc_sqT (sqT_mono s.ext hb)
  refine ⟨fun x e => ?_, fun e => ⟨vs, us, h1, h2, by rw [r.len, r2.len]; rw [zipP_len] at e; omega⟩⟩
  obtain ⟨y, z, e1, e2, rfl⟩ := zipP_get e
  obtain ⟨v, g1, g2⟩ := (r.mono s.pre s.ext).get e1
  obtain ⟨u, g3, g4⟩ := (r2.mono s.pre s.ext).get e2
  refine ⟨⟨vs, us, v, u, h1, h2, g1, g3⟩, fun q H' hy => ?_⟩
  obtain ⟨T, p1, p2, rfl, hT, rfl, q1, q2⟩ := hy
  have e3 := q1 vs h1
  have e4 := q2 us h2
  rw [g1] at e3
  rw [g3] at e4
  cases e3
  cases e4
  exact ⟨w'.put T (.tup [v, u]), rfl, rfl, put_step k hT, put_ok k hT, pair_put k hT g2 g4⟩
abbrev iEnumA (K : PySem.W.Frag) (ta : TA) : TI := fun σ H R => iEnum K ta σ H R ∨ iEnumT K ta σ H R
abbrev tRevA (K : PySem.W.Frag) (te : TE) : TE := fun σ H Q => tRevL K te σ H Q ∨ tRevT K te σ H Q
theorem sim_enum {K : PySem.W.Frag} {mg ta fa} (h : ASim K mg G E ta fa) : ISim K mg G E (fun σ H R => iEnum K ta σ H R ∨ iEnumT K ta σ H R) (mRange gEnum fa) := fun w ρ σ R I q => by
  have q' := Good.bind1 q
  cases e1 : fa ρ w.S with
  | bad => rw [e1] at q'; exact q'.elim
  | exc c fs S =>
    refine .inl (h w ρ σ _ I ?_)
    rw [e1] at q' ⊢
    exact q'
  | ok xs S =>
    rw [e1] at q'
    match xs, q' with
    | [.tup ys], q' =>
      refine .inr (h w ρ σ _ I ?_)
      rw [e1]
      intro w1 vs e2 s1 k1 r1
      obtain ⟨v, rfl, a, us, rfl, r2, r3⟩ := vs1 r1
      exact ⟨a, us, rfl, hc_sqT r2, q' w1 _ e2 s1 k1 (itok_enumT K r2 r3)⟩
    | [.lst ys], q' =>
      refine .inl (h w ρ σ _ I ?_)
      rw [e1]
      intro w1 vs e2 s1 k1 r1
      obtain ⟨v, rfl, a, us, rfl, r2, r3⟩ := vs1 r1
      have r2 : SqL K w1.hc a us := .inl (.inl r2)
      exact ⟨a, us, rfl, hc_sqL r2, q' w1 _ e2 s1 k1 (itok_enum K r2 r3)⟩
    | [.cl ys], q' =>
      refine .inl (h w ρ σ _ I ?_)
      rw [e1]
      intro w1 vs e2 s1 k1 r1
      obtain ⟨v, rfl, a, us, rfl, r2, r3⟩ := vs1 r1
      exact ⟨a, us, rfl, hc_sqL r2, q' w1 _ e2 s1 k1 (itok_enum K r2 r3)⟩
theorem fit_enum {e : Expr} {p pos tpos : Pos} {elts : List Expr} {kk : Nat} {ta fa} (hm : X.mg "enumerate" = none) (ha : FA X G E [e] ta fa) (hK : X.K = K := by rfl) (hg : Gl X "enumerate" := by rfl) (hs : starEach [e] X.env = [(false, eval e X.env)] := by rfl) :
    FIt X G E (.Tuple elts kk tpos) (.Call (.Name "enumerate" p) [e] [] pos) (iEnumA K ta) (mRange gEnum fa) := by
  subst hK
  exact ⟨pi_or (pi_enum hg hm ha.pe hs) (pi_enumT hg hm ha.pe hs), sim_enum ha.sim⟩
theorem vs2 {L Hc} {x y : PV} {vs : List V} (r : RVs K L Hc [x, y] vs) : ∃ v u, vs = [v, u] ∧ RV K L Hc x v ∧ RV K L Hc y u := by
  obtain ⟨v, r1, rfl, h1, h2⟩ := r
  obtain ⟨u, r2, rfl, h3, h4⟩ := h2
  have h4 : r2 = [] := h4
  subst h4
  exact ⟨v, u, rfl, h1, h3⟩
theorem sim_zip {K : PySem.W.Frag} {mg ta fa} (h : ASim K mg G E ta fa) : ISim K mg G E (RZ.iZipA K ta) (mRange gZip fa) := fun w ρ σ R I q => by
  refine h w ρ σ _ I (Good.imp (Good.bind1 q) (fun xs S1 h1 => ?_) fun _ _ _ h => h)
  intro w1 vs e1 s1 k1 r1
  match xs, h1, r1 with
  | [.tup xs, .tup ys], h1, r1 =>
    obtain ⟨v, u, rfl, ⟨a, us, rfl, r2, r3⟩, b, zs, rfl, r4, r5⟩ := vs2 K r1
    exact ⟨a, b, us, zs, rfl, .inr ⟨hc_sqT r2, hc_sqT r4, h1 w1 _ e1 s1 k1 (itok_zipT K r2 r3 r4 r5)⟩⟩
  | [.lst xs, .lst ys], h1, r1 =>
    obtain ⟨v, u, rfl, ⟨a, us, rfl, r2, r3⟩, b, zs, rfl, r4, r5⟩ := vs2 K r1
    have r2 : SqL K w1.hc a us := .inl (.inl r2)
    have r4 : SqL K w1.hc b zs := .inl (.inl r4)
    exact ⟨a, b, us, zs, rfl, .inl ⟨hc_sqL r2, hc_sqL r4, h1 w1 _ e1 s1 k1 (itok_zip K r2 r3 r4 r5)⟩⟩
  | [.cl xs, .lst ys], h1, r1 =>
    obtain ⟨v, u, rfl, ⟨a, us, rfl, r2, r3⟩, b, zs, rfl, r4, r5⟩ := vs2 K r1
    have r4 : SqL K w1.hc b zs := .inl (.inl r4)
    exact ⟨a, b, us, zs, rfl, .inl ⟨hc_sqL r2, hc_sqL r4, h1 w1 _ e1 s1 k1 (itok_zip K r2 r3 r4 r5)⟩⟩
  | [.lst xs, .cl ys], h1, r1 =>
    obtain ⟨v, u, rfl, ⟨a, us, rfl, r2, r3⟩, b, zs, rfl, r4, r5⟩ := vs2 K r1
    have r2 : SqL K w1.hc a us := .inl (.inl r2)
    exact ⟨a, b, us, zs, rfl, .inl ⟨hc_sqL r2, hc_sqL r4, h1 w1 _ e1 s1 k1 (itok_zip K r2 r3 r4 r5)⟩⟩
theorem fit_zip {e e2 : Expr} {p pos tpos : Pos} {elts : List Expr} {kk : Nat} {ta fa} (hm : X.mg "zip" = none) (ha : FA X G E [e, e2] ta fa) (hK : X.K = K := by rfl) (hg : Gl X "zip" := by rfl) (hs : starEach [e, e2] X.env = (false, eval e X.env) :: starEach [e2] X.env := by rfl) (hpl : (backTo pos (starEach [e2] X.env)).any (·.1) = false := by rfl) :
    FIt X G E (.Tuple elts kk tpos) (.Call (.Name "zip" p) [e, e2] [] pos) (RZ.iZipA K ta) (mRange gZip fa) := by
  subst hK
  exact ⟨RZ.pi_zipA hg hm ha.pe hs hpl, sim_zip ha.sim⟩
/-! ### range(a, b, c) -/
def gRange3 : List PV → Store → Res (List PV)
  | [.int i, .int j, .int c], S => if (decide (c ≠ 0) && (decide (c.natAbs < 1073741824) && (Builtin.Range.small i j c && decide (0 ≤ Builtin.Range.rangeSize i j c)))) = true then .ok ((List.range (Builtin.Range.rangeSize i j c).toNat).map fun (k : Nat) => PV.int (i + (k : Int) * c)) S else .bad
  | _, _ => .bad
theorem itok_rangeC {w1 : Wd} {lo c : Int} {n : Nat} : ItOk K w1 (Itc lo c n) ((List.range n).map fun (k : Nat) => PV.int (lo + (k : Int) * c)) := fun i w' s k => by
  refine ⟨fun x e => ?_, fun e => (by simpa using e : n ≤ i)⟩
  rw [List.getElem?_map] at e
  cases er : (List.range n)[i]? with
  | none => rw [er] at e; cases e
  | some m =>
    rw [er] at e
    cases e
    have hi : i < n := by
      have := (List.getElem?_eq_some_iff.mp er).1
      simpa using this
    have em : m = i := by
      obtain ⟨h, e⟩ := List.getElem?_eq_some_iff.mp er
      simpa using e.symm
    subst em
    refine ⟨hi, fun v H' hy => ?_⟩
    obtain ⟨rfl, rfl⟩ := hy
    exact ⟨w', rfl, rfl, WStep.refl k.sub, k, rfl⟩
theorem fit_range3 {tg a b c : Expr} {p pos : Pos} {ta fa} (hm : X.mg "range" = none) (ha : FA X G E [a, b, c] ta fa) (hg : Gl X "range" := by rfl) (hs : starEach [a, b, c] X.env = (false, eval a X.env) :: starEach [b, c] X.env := by rfl) (hpl : (backTo pos (starEach [b, c] X.env)).any (·.1) = false := by rfl) :
    FIt X G E tg (.Call (.Name "range" p) [a, b, c] [] pos) (iRng3 ta) (mRange gRange3 fa) := ⟨pi_range3 hg hm ha.pe hs hpl, fun w ρ σ R I q => by
  refine ha.sim w ρ σ _ I (Good.imp (Good.bind1 q) (fun xs S1 h1 => ?_) fun _ _ _ h => h)
  intro w1 vs e1 s1 k1 r1
  match xs, h1, r1 with
  | [.int i, .int j, .int c], h1, r1 =>
    obtain ⟨v, r, rfl, e2, v2, r2, rfl, e3, v3, r3, rfl, e4, e5⟩ := r1
    have e2 : v = .int i := e2
    have e3 : v2 = .int j := e3
    have e4 : v3 = .int c := e4
    have e5 : r3 = [] := e5
    subst e2 e3 e4 e5
    obtain ⟨cc, h2⟩ := good_if h1
    simp only [Bool.and_eq_true, decide_eq_true_eq] at cc
    exact ⟨i, j, c, _, rfl, ⟨cc.1, cc.2.1, cc.2.2.1, (Int.toNat_of_nonneg cc.2.2.2).symm⟩, h2 w1 _ e1 s1 k1 (itok_rangeC X.K)⟩⟩
/-! ### x[::-1] -/
def gRevS : PV → Store → Res PV
  | .tup xs, S => .ok (.tup xs.reverse) S
  | .lst xs, S => .ok (.lst xs.reverse) S
  | .cl xs, S => .ok (.lst xs.reverse) S
  | _, _ => .bad
theorem RVs.reverse {L Hc} : ∀ {xs : List PV} {vs : List V}, RVs K L Hc xs vs → RVs K L Hc xs.reverse vs.reverse
  | [], vs, h => by
    have h : vs = [] := h
    subst h; exact rfl
  | x :: xs, _, h => by
    obtain ⟨v, r, rfl, h1, h2⟩ := h
    rw [List.reverse_cons, List.reverse_cons]
    exact (RVs.reverse h2).append (RVs.one h1)
theorem sim_revS {K : PySem.W.Frag} {mg te f} (h : ESim K mg G E te f) : ESim K mg G E (fun σ H Q => tRevL K te σ H Q ∨ tRevT K te σ H Q) (mUn gRevS f) := fun w ρ σ Q I q => by
  have q' := Good.bind1 q
  cases e1 : f ρ w.S with
  | bad => rw [e1] at q'; exact q'.elim
  | exc c fs S =>
    refine .inl (h w ρ σ _ I ?_)
    rw [e1] at q' ⊢
    exact q'
  | ok x S =>
    rw [e1] at q'
    cases x <;> first | exact q'.elim | skip
    · refine .inr (h w ρ σ _ I ?_)
      rw [e1]
      intro w1 v e2 s1 k1 r1
      obtain ⟨a, vs, rfl, r2, r3⟩ := r1
      exact ⟨a, vs, rfl, hc_sqT r2, fun p hp => q' (w1.put p (.tup vs.reverse)) (.ref p) e2 (s1.tr (put_step k1 hp) I.ok k1) (put_ok k1 hp) ⟨p, _, rfl, .inl (.inl (put_at k1 hp)), RVs.reverse K (r3.mono (List.prefix_refl _) (put_ext hp))⟩⟩
    · refine .inl (h w ρ σ _ I ?_)
      rw [e1]
      intro w1 v e2 s1 k1 r1
      obtain ⟨a, vs, rfl, r2, r3⟩ := r1
      exact ⟨a, vs, rfl, .inl (.inl (hc_lst r2)), fun p hp => q' (w1.put p (.lst vs.reverse)) (.ref p) e2 (s1.tr (put_step k1 hp) I.ok k1) (put_ok k1 hp) ⟨p, _, rfl, put_at k1 hp, RVs.reverse K (r3.mono (List.prefix_refl _) (put_ext hp))⟩⟩
    · refine .inl (h w ρ σ _ I ?_)
      rw [e1]
      intro w1 v e2 s1 k1 r1
      obtain ⟨a, vs, rfl, r2, r3⟩ := r1
      exact ⟨a, vs, rfl, hc_sqL r2, fun p hp => q' (w1.put p (.lst vs.reverse)) (.ref p) e2 (s1.tr (put_step k1 hp) I.ok k1) (put_ok k1 hp) ⟨p, _, rfl, put_at k1 hp, RVs.reverse K (r3.mono (List.prefix_refl _) (put_ext hp))⟩⟩
theorem PE.orE {e t t'} (h : PE X e t) (h' : PE X e t') : PE X e (fun σ H Q => t σ H Q ∨ t' σ H Q) := ⟨fun pins s σ H Q I q => q.elim (h.run pins s σ H Q I) (h'.run pins s σ H Q I)⟩
theorem fe_revS {e : Expr} {te f} {k : Nat} {p1 p2 p3 pos : Pos} (he : FE X G E e te f) (hK : X.K = K := by rfl) : FE X G E (.Subscript e (.Slice none none (some (.UnaryOp .USub (.Constant (.int 1) k p1) p2)) p3) pos) (tRevA K te) (mUn gRevS f) := by
  subst hK
  exact ⟨PE.orE (pe_revL he.pe) (pe_revT he.pe), sim_revS he.sim⟩
/-! ### a >= b -/
theorem lexGe_at (ns ms : List Int) : ∀ (k i : Nat), i + k = min ns.length ms.length → Ob.lexAt (fun j => decide (ns.getD j 0 = ms.getD j 0)) (fun j => decide (ms.getD j 0 ≤ ns.getD j 0)) (decide (ns.length ≥ ms.length)) i k = lexGe (ns.drop i) (ms.drop i)
  | 0, i, h => by
    rw [Ob.lexAt_zero]
    by_cases h1 : ms.length ≤ ns.length
    · have : ms.drop i = [] := List.drop_eq_nil_of_le (by omega)
      rw [this]
      cases ns.drop i <;> simp [lexGe, h1]
    · have e1 : ns.drop i = [] := List.drop_eq_nil_of_le (by omega)
      have hi : i < ms.length := by omega
      rw [e1, List.drop_eq_getElem_cons hi]
      simp [lexGe, h1]
  | k + 1, i, h => by
    have hn : i < ns.length := by omega
    have hm : i < ms.length := by omega
    rw [Ob.lexAt_succ, List.drop_eq_getElem_cons hn, List.drop_eq_getElem_cons hm, lexGe_at ns ms k (i + 1) (by omega)]
    have e1 : ns.getD i 0 = ns[i] := by rw [List.getD_eq_getElem?_getD, List.getElem?_eq_getElem hn]; rfl
    have e2 : ms.getD i 0 = ms[i] := by rw [List.getD_eq_getElem?_getD, List.getElem?_eq_getElem hm]; rfl
    simp only [e1, e2, lexGe, decide_eq_true_eq]
def rGeT (K : PySem.W.Frag) : R2 := fun x y H Q => ∃ (a b : Addr) (ns ms : List Int), x = .ref a ∧ y = .ref b ∧ SqT K H a (ns.map V.int) ∧ SqT K H b (ms.map V.int) ∧ Q (.bl (lexGe ns ms)) H
theorem op_geT (hu : X.A.units < cLine) : OpR X (compareOp .GtE) (rGeT X.K) := by
  intro pins s σ H x y v u Q I rx ry h
  obtain ⟨a, b, ns, ms, rfl, rfl, ha, hb, q⟩ := h
  cases rx
  cases ry
  obtain ⟨us, r1, p1, _⟩ := I.tuple ha
  obtain ⟨us2, r2, p2, _⟩ := I.tuple hb
  have i1 : IntsAre us ns := Vals.ints r1
  have i2 : IntsAre us2 ms := Vals.ints r2
  have z1 : us.toArray.size = ns.length := by rw [List.size_toArray]; exact i1.length
  have z2 : us2.toArray.size = ms.length := by rw [List.size_toArray]; exact i2.length
  have at1 : ∀ j (h1 : j < us.toArray.size), ∃ t, us.toArray[j] = .int (ns.getD j 0) t := fun j h1 => PyProof.Rows.IntsAre.int_at i1 _ _ (by simp at h1; simp [h1])
  have at2 : ∀ j (h1 : j < us2.toArray.size), ∃ t, us2.toArray[j] = .int (ms.getD j 0) t := fun j h1 => PyProof.Rows.IntsAre.int_at i2 _ _ (by simp at h1; simp [h1])
  have R := Ob.RcOp.tuples_ge (A := X.A) (s := s) (e := fun j => decide (ns.getD j 0 = ms.getD j 0)) (r := fun j => decide (ms.getD j 0 ≤ ns.getD j 0)) p1 p2 hu (fun j h1 h2 => by
    obtain ⟨t, et⟩ := at1 j h1
    obtain ⟨t2, et2⟩ := at2 j h2
    rw [et, et2]
    have z : (ns.getD j 0 == ms.getD j 0) = decide (ns.getD j 0 = ms.getD j 0) := by
      by_cases q : ns.getD j 0 = ms.getD j 0
      · rw [decide_eq_true q]; exact beq_iff_eq.mpr q
      · rw [decide_eq_false q]; exact beq_eq_false_iff_ne.mpr q
    rw [← z]
    exact SeqAt.EqAt.int_int _ _ _ _) (fun j h1 h2 _ => by
    obtain ⟨t, et⟩ := at1 j h1
    obtain ⟨t2, et2⟩ := at2 j h2
    rw [et, et2]
    exact Ob.RcOp.ge_int _ _ _ _)
  rw [z1, z2, lexGe_at ns ms _ 0 (by omega), List.drop_zero, List.drop_zero] at R
  exact (R X.prog X.w X.xe (EP X pins σ Q) ⟨.bl _, H, I, rfl, q⟩ : wpAny (model X.prog X.w) X.A (compareOp .GtE (.ref a) (.ref b)) (EP X pins σ Q) X.xe s)
abbrev rGeA (K : PySem.W.Frag) : R2 := fun x y H Q => rI0 (fun i j => .bl (decide (j ≤ i))) x y H Q ∨ rGeT K x y H Q
theorem op_geA (hu : X.A.units + 200 < cLine) : OpR X (compareOp .GtE) (rGeA X.K) := op_ge.or (op_geT (by omega))
theorem kGe (hu : X.A.units + 200 < cLine) (h : X.K = K := by rfl) : OpR X (compareOp .GtE) (rGeA K) := h ▸ op_geA hu
theorem r2_geA {K mg} {E : XK} : R2Sim K mg E (rGeA K) gGeA := fun w x y v u Q k rx ry g => by
  by_cases ht : ∃ xs ys, x = .tup xs ∧ y = .tup ys
  · obtain ⟨xs, ys, rfl, rfl⟩ := ht
    have g : Good (match xs.mapM toI, ys.mapM toI with
      | some ns, some ms => Res.ok (.bl (lexGe ns ms)) w.S
      | _, _ => .bad) (PostV K w Q) (ExP K mg E w) := g
    obtain ⟨a, vs, rfl, r1, r2⟩ := rx
    obtain ⟨b, us, rfl, r3, r4⟩ := ry
    cases e1 : xs.mapM toI with
    | none => rw [e1] at g; exact g.elim
    | some ns =>
      cases e2 : ys.mapM toI with
      | none => rw [e1, e2] at g; exact g.elim
      | some ms =>
        rw [e1, e2] at g
        refine .inr ⟨a, b, ns, ms, rfl, rfl, ?_, ?_, post_self k g rfl rfl⟩
        · rw [← toIs_rv e1 r2]; exact hc_sqT r1
        · rw [← toIs_rv e2 r4]; exact hc_sqT r3
  · refine .inl (r2_ge (mg := mg) (E := E) w x y v u Q k rx ry ?_)
    have e : gGeA x y w.S = gGe x y w.S := by
      cases x <;> cases y <;> first | rfl | exact absurd ⟨_, _, rfl, rfl⟩ ht
    rw [← e]
    exact g
/-! ### not in, truth -/
theorem op_notInT (hu : X.A.units + 65 < cLine) : OpR X (compareOp .NotIn) (rInT X.K true) := fun pins s σ H x y v u Q I rx ry ⟨d, ds, hd, he, sd, se, q⟩ => by
  obtain ⟨as, r1⟩ := Dp.reads I d x v hd rx
  obtain ⟨bs, r2⟩ := Dp.reads I (.tuple ds) y u he ry
  exact SeqAt.notIn_tuple_reads r2 r1 (by have := SeqAt.canLay_of_shaped se; simpa only [PyData.canLay0] using this) (SeqAt.canLay_of_shaped sd) (room_in_shaped sd hu) ⟨.bl _, H, I, rfl, q⟩
abbrev rNotInA (K : PySem.W.Frag) : R2 := fun x y H Q => rNotInD K x y H Q ∨ rInT K true x y H Q
theorem kNotInD (hu : X.A.units + 200 < cLine) (h : X.K = K := by rfl) : OpR X (compareOp .NotIn) (rNotInA K) := h ▸ (op_notInD (by omega)).or (op_notInT (by omega))
theorem r2_notInA {K mg} {E : XK} : R2Sim K mg E (rNotInA K) (gInD true) := fun w x y v u Q k rx ry g => by
  unfold gInD at g
  split at g
  · rename_i d ds h1 h2
    obtain ⟨c, g⟩ := good_if g
    obtain ⟨c1, c2⟩ := He.ba c
    exact .inl ⟨d, ds, toD_dp (fun a o h => (cut_some h).2) h1 rx, toD_dp (fun a o h => (cut_some h).2) h2 ry, c1, c2, g w _ rfl (WStep.refl k.sub) k rfl⟩
  · rename_i d ds h1 h2
    obtain ⟨c, g⟩ := good_if g
    obtain ⟨c1, c2⟩ := He.ba c
    exact .inr ⟨d, ds, toD_dp (fun a o h => (cut_some h).2) h1 rx, toD_dp (fun a o h => (cut_some h).2) h2 ry, c1, c2, g w _ rfl (WStep.refl k.sub) k rfl⟩
  · exact g.elim
/-- a value's truth: bools, lists, tuples -/
def gTru : PV → Store → Res Bool
  | .bl b, S => .ok b S
  | .non, S => .ok false S
  | .int i, S => .ok (i != 0) S
  | .tup xs, S => .ok (!xs.isEmpty) S
  | .lst xs, S => .ok (!xs.isEmpty) S
  | .cl xs, S => .ok (!xs.isEmpty) S
  | _, _ => .bad
def mTru (f : Rho → Store → Res PV) : Rho → Store → Res Bool := fun ρ S => (f ρ S).bind gTru
theorem emp_len {α β : Type} {xs : List α} {ys : List β} (h : ys.length = xs.length) : (!ys.isEmpty) = !xs.isEmpty := by
  cases xs <;> cases ys <;> first | rfl | cases h
def tTru (K : PySem.W.Frag) (te : TE) : TT := fun σ H Q => te σ H fun x H' => ∃ k, TruV K x H' k ∧ Q k H'
theorem ft_tru {e te f} (h : FE X G E e te f) (hK : X.K = K := by rfl) (he : ∀ whole, isTrue e X.env whole = (do let v ← whole; standAt e.pos; holding [v] (truthy v)) := by intro _; rfl) :
    FT X G E e (tTru K te) (mTru f) := by
  subst hK
  exact ⟨pt_truth h.pe he, fun w ρ σ Q I q => by
    refine h.sim w ρ σ _ I (Good.imp (Good.bind1 q) (fun x S1 h1 => ?_) fun _ _ _ h => h)
    intro w1 v e1 s1 k1 r1
    cases x <;> first | exact h1.elim | skip
    · have r1 : v = .non := r1
      subst r1
      exact ⟨false, rfl, h1 w1 e1 s1 k1⟩
    · rename_i b
      have r1 : v = .bl b := r1
      subst r1
      exact ⟨b, rfl, h1 w1 e1 s1 k1⟩
    · rename_i i
      have r1 : v = .int i := r1
      subst r1
      exact ⟨_, rfl, h1 w1 e1 s1 k1⟩
    · obtain ⟨a, vs, rfl, r2, r3⟩ := r1
      exact ⟨_, .inr (.inl ⟨vs, hc_sqT r2, (emp_len r3.len).symm⟩), h1 w1 e1 s1 k1⟩
    · obtain ⟨a, vs, rfl, r2, r3⟩ := r1
      exact ⟨_, .inl ⟨vs, .inl (.inl (hc_lst r2)), (emp_len r3.len).symm⟩, h1 w1 e1 s1 k1⟩
    · obtain ⟨a, vs, rfl, r2, r3⟩ := r1
      exact ⟨_, .inl ⟨vs, hc_sqL r2, (emp_len r3.len).symm⟩, h1 w1 e1 s1 k1⟩⟩
/-! ### str(i), min(i, j), max(i, j) -/
def gStr : List PV → Store → Res PV
  | [.int i], S => if i.natAbs < 10 ^ 12 then .ok (.str (toString i)) S else .bad
  | _, _ => .bad
theorem ra_str {K mg} {E : XK} : RASim K mg E (fun xs H Q => ∃ i, xs = [V.int i] ∧ i.natAbs.log2 < 1920 ∧ Q (.str (toString i)) H) gStr := fun w xs vs Q k r g => by
  match xs, g, r with
  | [.int i], g, r =>
    obtain ⟨v, rfl, rfl⟩ := vs1 r
    obtain ⟨c, g⟩ := good_if g
    refine ⟨i, rfl, ?_, post_self k g rfl rfl⟩
    by_cases z : i.natAbs = 0
    · rw [z]; decide
    · have h1 : i.natAbs.log2 < 40 := (Nat.log2_lt z).mpr (Nat.lt_of_lt_of_le c (by decide))
      omega
def gMin2 : List PV → Store → Res PV
  | [.int i, .int j], S => .ok (.int (if j < i then j else i)) S
  | _, _ => .bad
def gMax2 : List PV → Store → Res PV
  | [.int i, .int j], S => .ok (.int (if j > i then j else i)) S
  | _, _ => .bad
theorem ra_min2 {K mg} {E : XK} : RASim K mg E (fun xs H Q => ∃ i j, xs = [V.int i, V.int j] ∧ Q (.int (if j < i then j else i)) H) gMin2 := fun w xs vs Q k r g => by
  match xs, g, r with
  | [.int i, .int j], g, r =>
    obtain ⟨v, u, rfl, h1, h2⟩ := vs2 K r
    have h1 : v = .int i := h1
    have h2 : u = .int j := h2
    subst h1 h2
    exact ⟨i, j, rfl, post_self k g rfl rfl⟩
theorem ra_max2 {K mg} {E : XK} : RASim K mg E (fun xs H Q => ∃ i j, xs = [V.int i, V.int j] ∧ Q (.int (if j > i then j else i)) H) gMax2 := fun w xs vs Q k r g => by
  match xs, g, r with
  | [.int i, .int j], g, r =>
    obtain ⟨v, u, rfl, h1, h2⟩ := vs2 K r
    have h1 : v = .int i := h1
    have h2 : u = .int j := h2
    subst h1 h2
    exact ⟨i, j, rfl, post_self k g rfl rfl⟩
end
end Mir
set_option maxHeartbeats 4000000
/-! MirI: is not, of bools. -/
namespace Mir
open PySem L2
section
variable {K : PySem.W.Frag} {mg : Str → Option Value} {E : XK} {X : Cx}
def gIsN : PV → PV → Store → Res PV
  | .bl a, .bl b, S => .ok (.bl (!decide (a = b))) S
  | x, y, S => gIs true x y S
theorem op_isnot_bl {X : Cx} : OpR X (compareOp .IsNot) fun x y H Q => ∃ a b : Bool, x = .bl a ∧ y = .bl b ∧ Q (.bl (!decide (a = b))) H := fun pins s σ H x y v u Q I rx ry h => by
  obtain ⟨a, b, rfl, rfl, q⟩ := h
  have e1 : v = .bool a := rx
  have e2 : u = .bool b := ry
  subst e1 e2
  by_cases e : a = b
  · subst e
    refine wpAny_isNot_self rfl ⟨.bl false, H, I, rfl, ?_⟩
    simpa using q
  · refine wpAny_isNot_other rfl (fun z => e (Value.bool.inj z)) ⟨.bl true, H, I, rfl, ?_⟩
    simpa [e] using q
abbrev rIsN : R2 := fun x y H Q => (y = .non ∧ Q (.bl (!decide (x = .non))) H) ∨ (∃ a b : Bool, x = .bl a ∧ y = .bl b ∧ Q (.bl (!decide (a = b))) H)
theorem op_isN2 {X : Cx} : OpR X (compareOp .IsNot) rIsN := op_notN.or op_isnot_bl
theorem r2_isN2 : R2Sim K mg E rIsN gIsN := fun w x y v u Q k rx ry g => by
  by_cases h : ∃ a b, x = .bl a ∧ y = .bl b
  · obtain ⟨a, b, rfl, rfl⟩ := h
    exact .inr ⟨a, b, rx, ry, g w _ rfl (WStep.refl k.sub) k rfl⟩
  · refine .inl (r2_isnot (mg := mg) (E := E) w x y v u Q k rx ry ?_)
    have e : gIsN x y w.S = gIs true x y w.S := by
      cases x <;> cases y <;> first | rfl | exact absurd ⟨_, _, rfl, rfl⟩ h
    rw [← e]
    exact g
end
end Mir
set_option maxHeartbeats 4000000
/-! MirK: comprehensions of two clauses. -/
namespace Mir
open PySem PySem.Spec PyProof.Rows L2
/-- n: how many items the first clause walks -/
def mLc2Go (n : Nat) (g : PV → Rho → Store → Res Rho) (t : Rho → Store → Res Bool) (it1 : Rho → Store → Res (List PV)) (g1 : PV → Rho → Store → Res Rho) (t1 : Rho → Store → Res Bool) (e : Rho → Store → Res PV) (vs1 : List Nat) (ρ : Rho) : List PV → Store → Res (List PV)
  | [], S => .ok [] S
  | x :: xs, S => (g x ρ S).nox.bind fun ρ1 S1 => (t ρ1 S1).nox.bind fun k S2 => if k then (it1 ρ1 S2).nox.bind fun ys S3 => if ys.length * n ≤ sizeM then (mLcGo g1 t1 e (mWipe ρ1 vs1) ys S3).nox.bind fun zs S4 => (mLc2Go n g t it1 g1 t1 e vs1 ρ xs S4).bind fun us S5 => .ok (zs ++ us) S5 else .bad else mLc2Go n g t it1 g1 t1 e vs1 ρ xs S2
def mLc2 (it : Rho → Store → Res (List PV)) (g : PV → Rho → Store → Res Rho) (t : Rho → Store → Res Bool) (it1 : Rho → Store → Res (List PV)) (g1 : PV → Rho → Store → Res Rho) (t1 : Rho → Store → Res Bool) (e : Rho → Store → Res PV) (vs vs1 : List Nat) : Rho → Store → Res SO := fun ρ S =>
  (it ρ S).bind fun xs S1 => (mLc2Go xs.length g t it1 g1 t1 e vs1 (mWipe ρ vs) xs S1).bind fun ys S2 => .ok (.lst ys) S2
theorem bound2 {a b l n i : Nat} (h1 : a * n ≤ i * sizeM) (h2 : l * n ≤ sizeM) (h3 : b ≤ a + l) : b * n ≤ (i + 1) * sizeM :=
  Nat.le_trans (Nat.mul_le_mul_right n h3) (by rw [Nat.add_mul, Nat.add_mul]; omega)
theorem bound3 {b n i : Nat} (h : b * n ≤ (i + 1) * sizeM) (hi : i < n) : b ≤ sizeM := by
  have h2 : b * n ≤ n * sizeM := Nat.le_trans h (Nat.mul_le_mul_right _ hi)
  rw [Nat.mul_comm n] at h2
  exact Nat.le_of_mul_le_mul_right h2 (by omega)
/-- a target makes no list of ours -/
def NoOwn (f : PV → Rho → Store → Res Rho) : Prop := ∀ x ρ S ρ' S', f x ρ S = .ok ρ' S' → ∀ (j : Nat) (o : SO), ρ'[j]? = some (.own o) → ρ[j]? = some (.own o)
def NoOwns (f : List PV → Rho → Store → Res Rho) : Prop := ∀ x ρ S ρ' S', f x ρ S = .ok ρ' S' → ∀ (j : Nat) (o : SO), ρ'[j]? = some (.own o) → ρ[j]? = some (.own o)
theorem noOwn_nm {i : Nat} : NoOwn (gNm i) := fun x ρ S ρ' S' e j o h => by
  cases e
  by_cases q : i = j
  · subst q
    by_cases l : i < ρ.length
    · rw [List.getElem?_set_self l] at h; cases h
    · rw [List.getElem?_eq_none (by rw [List.length_set]; omega)] at h; cases h
  · rwa [List.getElem?_set_ne q] at h
theorem noOwns_nil : NoOwns gsNil := fun x ρ S ρ' S' e j o h => by
  cases x with
  | nil => cases e; exact h
  | cons => cases e
theorem noOwns_cons {f g} (h1 : NoOwn f) (h2 : NoOwns g) : NoOwns (gsCons f g) := fun x ρ S ρ' S' e j o h => by
  cases x with
  | nil => cases e
  | cons y ys =>
    have e : (f y ρ S).bind (fun ρ1 S1 => g ys ρ1 S1) = .ok ρ' S' := e
    cases q : f y ρ S with
    | bad => rw [q] at e; cases e
    | exc => rw [q] at e; cases e
    | ok ρ1 S1 => rw [q] at e; exact h1 _ _ _ _ _ q j o (h2 _ _ _ _ _ e j o h)
theorem noOwn_tup {n : Nat} {f} (h1 : NoOwns f) : NoOwn (gTupM n f) := fun x ρ S ρ' S' e j o h => by
  cases x <;> first | cases e | skip
  rename_i xs
  have e : (if xs.length = n then f xs ρ S else .bad) = .ok ρ' S' := e
  split at e
  · exact h1 _ _ _ _ _ e j o h
  · cases e
theorem mWipe_own : ∀ {vs : List Nat} {ρ : Rho} {j : Nat} {o : SO}, (mWipe ρ vs)[j]? = some (.own o) → ρ[j]? = some (.own o) ∧ j ∉ vs
  | [], _, _, _, h => ⟨h, fun q => nomatch q⟩
  | v :: vs, ρ, j, o, h => by
    have h : ((mWipe ρ vs).set v .none)[j]? = some (.own o) := h
    by_cases q : v = j
    · subst q
      by_cases l : v < (mWipe ρ vs).length
      · rw [List.getElem?_set_self l] at h; cases h
      · rw [List.getElem?_eq_none (by rw [List.length_set]; omega)] at h; cases h
    · rw [List.getElem?_set_ne q] at h
      obtain ⟨a, b⟩ := mWipe_own h
      exact ⟨a, fun m => (List.mem_cons.mp m).elim (fun e => q e.symm) b⟩
theorem Good.eqn {α : Type} {r : Res α} {P : α → Store → Prop} {ex} (h : Good r P ex) : Good r (fun a S => r = .ok a S ∧ P a S) ex := by
  cases r with
  | ok a S => exact ⟨rfl, h⟩
  | exc c fs S => exact h
  | bad => exact h
theorem sim_lc2 {K : PySem.W.Frag} {mg : Str → Option Value} {G : Wd} {E : EK} {wi g tt wi1 g1 tt1 te vs vs1 fi fg ft fi1 fg1 ft1 fe} (hi : ISim K mg G E wi fi) (hno : NoOwn fg) (hg : GtSim K mg G g fg vs) (ht : TSim K mg G (fun _ => E0) tt ft) (hi1 : ISim K mg G (fun _ => E0) wi1 fi1) (hg1 : GtSim K mg G g1 fg1 vs1) (ht1 : TSim K mg G (fun _ => E0) tt1 ft1) (he : ESim K mg G (fun _ => E0) te fe) :
    NSim K mg G E (tLc2 wi g tt wi1 g1 tt1 te vs vs1) (mLc2 fi fg ft fi1 fg1 ft1 fe vs vs1) := fun w ρ σ Q I q => by
  refine hi w ρ σ _ I (Good.imp (Good.bind1 q) (fun xs S1 h1 => ?_) fun _ _ _ h => h)
  intro w1 J e1 s1 k1 it D hD
  subst e1
  have k2 := laid_ok (o := .lst []) k1 hD
  have s2 := laid_step (o := .lst []) k1 hD
  have hDL : D ∉ w1.L := k1.ninL hD
  have hDw : w.H D = none := by
    cases e : w.H D with
    | none => rfl
    | some o =>
      by_cases z : D ∈ w.L
      · exact absurd (s1.pre.subset z) hDL
      · rw [s1.keep D o e z] at hD; cases hD
  have I1 := I.step s1 k1
  have hGD : G.H D = none := by
    cases e : G.H D with
    | none => rfl
    | some o =>
      by_cases z : D ∈ G.L
      · exact absurd ((I.stp.pre.trans s1.pre).subset z) hDL
      · rw [I.stp.keep D o e z] at hDw; cases hDw
  have npO : ∀ (j : Nat) (o : SO), ρ[j]? = some (.own o) → ∀ p : Addr, σ[j]? = some (some (.ref p)) → p ≠ D := fun j o e p e2 z => by
    obtain ⟨p', a', b', _⟩ := I1.own j o e
    rw [a'] at e2
    cases e2
    rw [z] at b'
    exact k1.nin hD b'
  -- a frame over what is written at D
  have wrI : ∀ {ρ' : Rho} {σ' : L2.St} {w6 : Wd} {o : HO}, FI K G w6 ρ' σ' → WOk K (w6.wr D o) → D ∈ w6.O → (∀ (j : Nat) (o' : SO), ρ'[j]? = some (.own o') → ∀ p : Addr, σ'[j]? = some (some (.ref p)) → p ≠ D) → FI K G (w6.wr D o) ρ' σ' := fun {ρ' σ' w6 o} I6 k7 hO6 np => by
    refine ⟨I6.gok, k7, wr_step I6.stp hGD, I6.len, fun j x e => ?_, fun j o' e => ?_, I6.dis, fun j c fs e => ?_⟩
    · rw [wr_hc hO6]; exact I6.val j x e
    · rw [wr_hc hO6]
      obtain ⟨p, a, b, c, d, r⟩ := I6.own j o' e
      exact ⟨p, a, b, c, d, by show SOk K w6.L w6.hc (upd w6.H D _ p) o'; rw [upd_ne (np j o' e p a)]; exact r⟩
    · rw [wr_hc hO6]; exact I6.pin j c fs e
  refine ⟨fun i m H => ∃ w2 pacc acc, w2.H = H ∧ WStep w w2 ∧ WOk K w2 ∧ VStep w1 w2 ∧ D ∈ w2.O ∧ D ∉ w2.L ∧ w2.H D = some (.lst acc) ∧ RVs K w2.L w2.hc pacc acc ∧ acc.length * xs.length ≤ i * sizeM ∧ m + i = xs.length ∧ FI K G w2 (mWipe ρ vs) (wipe σ vs) ∧
    Good (mLc2Go xs.length fg ft fi1 fg1 ft1 fe vs1 (mWipe ρ vs) (xs.drop i) w2.S) (fun ys S' => PostN K w Q (.lst (pacc ++ ys)) S') (ExP K mg (E σ) w),
    ⟨xs.length, w1.laid D (.lst []), [], [], rfl, s1.tr s2 I.ok k1, k2, s2.v k1.sub, List.mem_cons_self, hDL, by show upd w1.H D _ D = _; rw [upd_same], rfl, by simp, rfl, (I1.step s2 k2).wipe vs, Good.bind1 h1⟩, ?_⟩
  rintro i m H2 ⟨w2, pacc, acc, rfl, s2', k2', v2, hO, hL, hD2, racc, hlen, em, I2, h2⟩
  by_cases hx : i < xs.length
  · have ed : xs.drop i = xs[i] :: xs.drop (i + 1) := (List.getElem_cons_drop hx).symm
    rw [ed] at h2
    obtain ⟨go, yl⟩ := (it i w2 v2 k2').1 xs[i] (List.getElem?_eq_getElem hx)
    refine .inr ⟨go, fun H' => ∃ w3 pacc acc, w3.H = H' ∧ WStep w w3 ∧ WOk K w3 ∧ VStep w1 w3 ∧ D ∈ w3.O ∧ D ∉ w3.L ∧ w3.H D = some (.lst acc) ∧ RVs K w3.L w3.hc pacc acc ∧ acc.length * xs.length ≤ (i + 1) * sizeM ∧ FI K G w3 (mWipe ρ vs) (wipe σ vs) ∧
      Good (mLc2Go xs.length fg ft fi1 fg1 ft1 fe vs1 (mWipe ρ vs) (xs.drop (i + 1)) w3.S) (fun ys S' => PostN K w Q (.lst (pacc ++ ys)) S') (ExP K mg (E σ) w), ?_, fun v H' hy => ?_⟩
    · rintro H' ⟨w3, p3, a3, c1, c2, c3, c4, c5, c6, c7, c8, c9, c10, c11⟩
      exact ⟨m - 1, by omega, w3, p3, a3, c1, c2, c3, c4, c5, c6, c7, c8, c9, by omega, c10, c11⟩
    · obtain ⟨w3, rfl, es, s3, k3, r3⟩ := yl v H' hy
      rw [← es] at h2
      have I3 := I2.step s3 k3
      have h3 := Good.nox (ex' := fun _ _ _ => False) (Good.bind1 h2)
      refine hg w3 _ _ xs[i] v _ I3 r3 (Good.imp (Good.eqn h3) (fun ρ4 S4 h4 => ?_) fun _ _ _ h => h)
      obtain ⟨eρ4, h4⟩ := h4
      intro σ4 e4 l4 f4 I4
      subst e4
      have wp := wipe_wipe σ σ4 vs (by rw [l4, wipe_length]) f4
      refine ⟨wp.1.trans wp.2, ?_⟩
      have h4' := Good.nox (ex' := ExP K mg E0 w3) (Good.bind1 h4)
      refine ht w3 ρ4 σ4 _ I4 (Good.imp h4' (fun b S5 h5 => ?_) fun _ _ _ h => h)
      intro w5 e5 s5 k5
      subst e5
      have s25 := s3.tr s5 k2' k3
      have hD5 : w5.H D = some (.lst acc) := s25.keep D _ hD2 hL
      have hO5 := s25.omono D hO
      have hL5 : D ∉ w5.L := fun z => by
        rcases s25.lset D z with y | y
        · exact hL y
        · rw [hD2] at y; cases y
      cases b with
      | false =>
        rw [if_neg Bool.false_ne_true] at h5 ⊢
        exact ⟨w5, pacc, acc, rfl, s2'.tr s25 I.ok k2', k5, v2.trans (s25.v k2'.sub), hO5, hL5, hD5, racc.mono s25.pre (s25.ext k2'.sub), Nat.le_trans hlen (Nat.mul_le_mul_right _ (Nat.le_succ i)), I2.step s25 k5, h5⟩
      | true =>
        rw [if_pos rfl] at h5 ⊢
        have I5 := I4.step s5 k5
        have h5' := Good.nox (ex' := ExP K mg E0 w5) (Good.bind1 h5)
        refine hi1 w5 ρ4 σ4 _ I5 (Good.imp h5' (fun ys S6 h6 => ?_) fun _ _ _ h => h)
        intro w6 J1 e6 s6 k6 it1
        subst e6
        obtain ⟨hb, h6⟩ := good_if h6
        have s26 := s25.tr s6 k2' k5
        have hD6 : w6.H D = some (.lst acc) := s6.keep D _ hD5 hL5
        have hO6 := s6.omono D hO5
        have hL6 : D ∉ w6.L := fun z => by
          rcases s6.lset D z with y | y
          · exact hL5 y
          · rw [hD5] at y; cases y
        have I6 := (I5.step s6 k6).wipe vs1
        have np4 : ∀ (j : Nat) (o' : SO), (mWipe ρ4 vs1)[j]? = some (.own o') → ∀ p : Addr, (wipe σ4 vs1)[j]? = some (some (.ref p)) → p ≠ D := fun j o' a p b => by
          obtain ⟨a1, a2⟩ := mWipe_own a
          have a3 := hno _ _ _ _ _ eρ4 j o' a1
          obtain ⟨a4, a5⟩ := mWipe_own a3
          rw [wipe_out a2, f4 j a5, wipe_out a5] at b
          exact npO j o' a4 p b
        have h6' := Good.nox (ex' := fun _ _ _ => False) (Good.bind1 h6)
        refine ⟨fun j k H => ∃ w7 pacc7 acc7, w7.H = H ∧ WStep w w7 ∧ WOk K w7 ∧ VStep w1 w7 ∧ VStep w6 w7 ∧ D ∈ w7.O ∧ D ∉ w7.L ∧ w7.H D = some (.lst acc7) ∧ RVs K w7.L w7.hc pacc7 acc7 ∧ acc7.length ≤ acc.length + j ∧ k + j = ys.length ∧ FI K G w7 (mWipe ρ vs) (wipe σ vs) ∧ FI K G w7 (mWipe ρ4 vs1) (wipe σ4 vs1) ∧
          Good (mLcGo fg1 ft1 fe (mWipe ρ4 vs1) (ys.drop j) w7.S) (fun zs S' => Good (mLc2Go xs.length fg ft fi1 fg1 ft1 fe vs1 (mWipe ρ vs) (xs.drop (i + 1)) S') (fun us S'' => PostN K w Q (.lst (pacc7 ++ (zs ++ us))) S'') (ExP K mg (E σ) w)) (fun _ _ _ => False),
          ⟨ys.length, w6, pacc, acc, rfl, s2'.tr s26 I.ok k2', k6, v2.trans (s26.v k2'.sub), VStep.refl _, hO6, hL6, hD6, racc.mono s26.pre (s26.ext k2'.sub), Nat.le_refl _, rfl, I2.step s26 k6, I6, ?_⟩, ?_⟩
        · refine Good.imp h6' (fun zs S7 h7 => ?_) fun _ _ _ h => h
          refine Good.imp (Good.bind1 h7) (fun us S8 h8 => ?_) fun _ _ _ h => h
          exact h8
        · rintro j k H7 ⟨w7, pacc7, acc7, rfl, s7, k7, v7, v67, hO7, hL7, hD7, racc7, hlen7, em7, J7, I7, h7⟩
          by_cases hj : j < ys.length
          · have ey : ys.drop j = ys[j] :: ys.drop (j + 1) := (List.getElem_cons_drop hj).symm
            rw [ey] at h7
            obtain ⟨go1, yl1⟩ := (it1 j w7 v67 k7).1 ys[j] (List.getElem?_eq_getElem hj)
            refine .inr ⟨go1, fun H' => ∃ w8 pacc8 acc8, w8.H = H' ∧ WStep w w8 ∧ WOk K w8 ∧ VStep w1 w8 ∧ VStep w6 w8 ∧ D ∈ w8.O ∧ D ∉ w8.L ∧ w8.H D = some (.lst acc8) ∧ RVs K w8.L w8.hc pacc8 acc8 ∧ acc8.length ≤ acc.length + (j + 1) ∧ FI K G w8 (mWipe ρ vs) (wipe σ vs) ∧ FI K G w8 (mWipe ρ4 vs1) (wipe σ4 vs1) ∧
              Good (mLcGo fg1 ft1 fe (mWipe ρ4 vs1) (ys.drop (j + 1)) w8.S) (fun zs S' => Good (mLc2Go xs.length fg ft fi1 fg1 ft1 fe vs1 (mWipe ρ vs) (xs.drop (i + 1)) S') (fun us S'' => PostN K w Q (.lst (pacc8 ++ (zs ++ us))) S'') (ExP K mg (E σ) w)) (fun _ _ _ => False), ?_, fun v1 H' hy1 => ?_⟩
            · rintro H' ⟨w8, p8, a8, c1, c2, c3, c4, c5, c6, c7, c8, c9, c10, c11, c12, c13⟩
              exact ⟨k - 1, by omega, w8, p8, a8, c1, c2, c3, c4, c5, c6, c7, c8, c9, c10, by omega, c11, c12, c13⟩
            · obtain ⟨w8, rfl, es8, s8, k8, r8⟩ := yl1 v1 H' hy1
              rw [← es8] at h7
              have I8 := I7.step s8 k8
              have h8 := Good.nox (ex' := fun _ _ _ => False) (Good.bind1 h7)
              refine hg1 w8 _ _ ys[j] v1 _ I8 r8 (Good.imp h8 (fun ρ9 S9 h9 => ?_) fun _ _ _ h => h)
              intro σ9 e9 l9 f9 I9
              subst e9
              have wp1 := wipe_wipe σ4 σ9 vs1 (by rw [l9, wipe_length]) f9
              refine ⟨wp1.1.trans wp1.2, ?_⟩
              have h9' := Good.nox (ex' := ExP K mg E0 w8) (Good.bind1 h9)
              refine ht1 w8 ρ9 σ9 _ I9 (Good.imp h9' (fun b S10 h10 => ?_) fun _ _ _ h => h)
              intro w10 e10 s10 k10
              subst e10
              have s710 := s8.tr s10 k7 k8
              cases b with
              | false =>
                rw [if_neg Bool.false_ne_true] at h10 ⊢
                have hD10 : w10.H D = some (.lst acc7) := s710.keep D _ hD7 hL7
                refine ⟨w10, pacc7, acc7, rfl, s7.tr s710 I.ok k7, k10, v7.trans (s710.v k7.sub), v67.trans (s710.v k7.sub), s710.omono D hO7, fun z => ?_, hD10, racc7.mono s710.pre (s710.ext k7.sub), by omega, J7.step s710 k10, I7.step s710 k10, h10⟩
                rcases s710.lset D z with y | y
                · exact hL7 y
                · rw [hD7] at y; cases y
              | true =>
                rw [if_pos rfl] at h10 ⊢
                have h10' := Good.nox (ex' := ExP K mg E0 w10) (Good.bind1 h10)
                refine he w10 ρ9 σ9 _ (I9.step s10 k10) (Good.imp h10' (fun y S11 h11 => ?_) fun _ _ _ h => h)
                intro w11 u e11 s11 k11 r11
                subst e11
                have s711 := s710.tr s11 k7 k10
                have hD11 : w11.H D = some (.lst acc7) := s711.keep D _ hD7 hL7
                have hL11 : D ∉ w11.L := fun z => by
                  rcases s711.lset D z with y | y
                  · exact hL7 y
                  · rw [hD7] at y; cases y
                have hO11 := s711.omono D hO7
                have v12 : VStep w11 (w11.wr D (.lst (acc7 ++ [u]))) := wr_v hO11
                have k12 := wr_ok (ho := .lst (acc7 ++ [u])) k11 hO11 hL11
                have hlt : acc7.length < sizeM := by
                  have b1 := bound3 (bound2 hlen hb (show acc.length + ys.length ≤ acc.length + ys.length from Nat.le_refl _)) hx
                  omega
                refine ⟨acc7, hD11, sizeM_le hlt, w11.wr D (.lst (acc7 ++ [u])), pacc7 ++ [y], acc7 ++ [u], rfl, wr_step (s7.tr s711 I.ok k7) hDw, k12, (v7.trans (s711.v k7.sub)).trans v12, (v67.trans (s711.v k7.sub)).trans v12, hO11, hL11, by show upd w11.H D _ D = _; rw [upd_same], ?_, by simp; omega, wrI (J7.step s711 k11) k12 hO11 (fun jj o' a p bb => ?_), wrI (I7.step s711 k11) k12 hO11 np4, ?_⟩
                · rw [wr_hc hO11]
                  exact RVs.append (racc7.mono s711.pre (s711.ext k7.sub)) (RVs.one r11)
                · obtain ⟨a4, a5⟩ := mWipe_own a
                  rw [wipe_out a5] at bb
                  exact npO jj o' a4 p bb
                · refine Good.imp (Good.bind1 h11) (fun zs S12 h12 => ?_) fun _ _ _ h => h
                  refine Good.imp h12 (fun us S13 h13 => ?_) fun _ _ _ h => h
                  rw [List.append_assoc]
                  exact h13
          · refine .inl ⟨(it1 j w7 v67 k7).2 (by omega), ?_⟩
            rw [List.drop_eq_nil_of_le (by omega)] at h7
            refine ⟨w7, pacc7, acc7, rfl, s7, k7, v7, hO7, hL7, hD7, racc7, bound2 hlen hb (by omega), J7, ?_⟩
            exact h7
  · refine .inl ⟨(it i w2 v2 k2').2 (by omega), ?_⟩
    rw [List.drop_eq_nil_of_le (by omega)] at h2
    have h2 : PostN K w Q (.lst (pacc ++ [])) w2.S := h2
    rw [List.append_nil] at h2
    exact h2 w2 D rfl s2' k2' hDw hO hL ⟨acc, hD2, racc⟩
theorem fn_lc2 {X : Cx} {G : Wd} {E : EK} {elt tg iter tg1 iter1 : Expr} {ifs ifs1 : List Expr} {scope : Scope} {pos : Pos} {wi g tt wi1 g1 tt1 te fi fg ft fi1 fg1 ft1 fe} (own : List (Str × Nat)) (vs1 : List Nat) (hc : X.calm = true) (hN : X.N.Nodup) (ok : BlkOk X.N X.env.scope scope own) (hv : ∀ (i : Nat), i ∈ vs1 → i ∈ own.map (·.2)) (hi : FIt X G E tg iter wi fi) (hno : NoOwn fg)
    (hg : ∀ (s : Shared) (H : Hp) (C : Addr) (cl : List (Str × Addr)) (fp : List Addr), FGt (X.blk s H scope (compEnvC scope cl C X.env) fp) G tg g fg (own.map (·.2)))
    (ht : ∀ (s : Shared) (H : Hp) (C : Addr) (cl : List (Str × Addr)) (fp : List Addr), FTs (X.blk s H scope (compEnvC scope cl C X.env) fp) G (fun _ => E0) ifs tt ft)
    (hi1 : ∀ (s : Shared) (H : Hp) (C : Addr) (cl : List (Str × Addr)) (fp : List Addr), FIt (X.blk s H scope (compEnvC scope cl C X.env) fp) G (fun _ => E0) tg1 iter1 wi1 fi1)
    (hg1 : ∀ (s : Shared) (H : Hp) (C : Addr) (cl : List (Str × Addr)) (fp : List Addr), FGt (X.blk s H scope (compEnvC scope cl C X.env) fp) G tg1 g1 fg1 vs1)
    (ht1 : ∀ (s : Shared) (H : Hp) (C : Addr) (cl : List (Str × Addr)) (fp : List Addr), FTs (X.blk s H scope (compEnvC scope cl C X.env) fp) G (fun _ => E0) ifs1 tt1 ft1)
    (he : ∀ (s : Shared) (H : Hp) (C : Addr) (cl : List (Str × Addr)) (fp : List Addr), FE (X.blk s H scope (compEnvC scope cl C X.env) fp) G (fun _ => E0) elt te fe) (hs : ∀ x, foldedSetIterable iter X.env x = pure x := by intro _; rfl) (hs1 : ∀ (env : Env) (x : Value), foldedSetIterable iter1 env x = pure x := by intro _ _; rfl) :
    FN X G E (.ListComp elt [⟨tg, iter, ifs, 0⟩, ⟨tg1, iter1, ifs1, 0⟩] scope pos) (tLc2 wi g tt wi1 g1 tt1 te (own.map (·.2)) vs1) (mLc2 fi fg ft fi1 fg1 ft1 fe (own.map (·.2)) vs1) :=
  ⟨pe_lc2 hc hN hi.pe ok hv (fun s H C cl fp => (hg s H C cl fp).pe) (fun s H C cl fp => (ht s H C cl fp).pe) (fun s H C cl fp => (hi1 s H C cl fp).pe) (fun s H C cl fp => (hg1 s H C cl fp).pe) (fun s H C cl fp => (ht1 s H C cl fp).pe) (fun s H C cl fp => (he s H C cl fp).pe) hs hs1,
   sim_lc2 hi.sim hno (hg X.s_0 X.H_0 0 [] []).sim (ht X.s_0 X.H_0 0 [] []).sim (hi1 X.s_0 X.H_0 0 [] []).sim (hg1 X.s_0 X.H_0 0 [] []).sim (ht1 X.s_0 X.H_0 0 [] []).sim (he X.s_0 X.H_0 0 [] []).sim⟩
theorem fs_lc2 {X : Cx} {G : Wd} {E : EK} {elt tg iter tg1 iter1 : Expr} {ifs ifs1 : List Expr} {scope : Scope} {pos spos py : Pos} {y : Str} {wi g tt wi1 g1 tt1 te fi fg ft fi1 fg1 ft1 fe} (i : Nat) (own : List (Str × Nat)) (vs1 : List Nat) (hc : X.calm = true) (hN : X.N.Nodup) (hy : X.N[i]? = some y) (hyl : X.env.scope.names.lookup y = some .local)
    (hsw : swapsWith (.ListComp elt [⟨tg, iter, ifs, 0⟩, ⟨tg1, iter1, ifs1, 0⟩] scope pos) (some (.Name y py)) spos.line X.env = pure true) (ok : BlkOk X.N X.env.scope scope own) (hv : ∀ (i : Nat), i ∈ vs1 → i ∈ own.map (·.2)) (hi : FIt X G E tg iter wi fi) (hno : NoOwn fg)
    (hg : ∀ (s : Shared) (H : Hp) (C : Addr) (cl : List (Str × Addr)) (fp : List Addr), FGt (X.blk s H scope (compEnvC scope cl C X.env) fp) G tg g fg (own.map (·.2)))
    (ht : ∀ (s : Shared) (H : Hp) (C : Addr) (cl : List (Str × Addr)) (fp : List Addr), FTs (X.blk s H scope (compEnvC scope cl C X.env) fp) G (fun _ => E0) ifs tt ft)
    (hi1 : ∀ (s : Shared) (H : Hp) (C : Addr) (cl : List (Str × Addr)) (fp : List Addr), FIt (X.blk s H scope (compEnvC scope cl C X.env) fp) G (fun _ => E0) tg1 iter1 wi1 fi1)
    (hg1 : ∀ (s : Shared) (H : Hp) (C : Addr) (cl : List (Str × Addr)) (fp : List Addr), FGt (X.blk s H scope (compEnvC scope cl C X.env) fp) G tg1 g1 fg1 vs1)
    (ht1 : ∀ (s : Shared) (H : Hp) (C : Addr) (cl : List (Str × Addr)) (fp : List Addr), FTs (X.blk s H scope (compEnvC scope cl C X.env) fp) G (fun _ => E0) ifs1 tt1 ft1)
    (he : ∀ (s : Shared) (H : Hp) (C : Addr) (cl : List (Str × Addr)) (fp : List Addr), FE (X.blk s H scope (compEnvC scope cl C X.env) fp) G (fun _ => E0) elt te fe) (hs : ∀ x, foldedSetIterable iter X.env x = pure x := by intro _; rfl) (hs1 : ∀ (env : Env) (x : Value), foldedSetIterable iter1 env x = pure x := by intro _ _; rfl) :
    FLcS X G E (.Assign [.Name y py] (.ListComp elt [⟨tg, iter, ifs, 0⟩, ⟨tg1, iter1, ifs1, 0⟩] scope pos) spos) i (tLc2 wi g tt wi1 g1 tt1 te (own.map (·.2)) vs1) (mLc2 fi fg ft fi1 fg1 ft1 fe (own.map (·.2)) vs1) :=
  ⟨ps_setLc2 hc hN hy hyl hsw hi.pe ok hv (fun s H C cl fp => (hg s H C cl fp).pe) (fun s H C cl fp => (ht s H C cl fp).pe) (fun s H C cl fp => (hi1 s H C cl fp).pe) (fun s H C cl fp => (hg1 s H C cl fp).pe) (fun s H C cl fp => (ht1 s H C cl fp).pe) (fun s H C cl fp => (he s H C cl fp).pe) hs hs1,
   sim_lc2 hi.sim hno (hg X.s_0 X.H_0 0 [] []).sim (ht X.s_0 X.H_0 0 [] []).sim (hi1 X.s_0 X.H_0 0 [] []).sim (hg1 X.s_0 X.H_0 0 [] []).sim (ht1 X.s_0 X.H_0 0 [] []).sim (he X.s_0 X.H_0 0 [] []).sim⟩
end Mir
set_option maxHeartbeats 4000000
/-! MirT: t.index(x) of a tuple. -/
namespace HT
open PySem PyProof.Rows
theorem tuple_indexAt (l : Addr) (items : Array Value) (x : Value) (e : Value → Bool) (j : Nat) (hj : j < items.size) (hit : e items[j] = true) (hno : ∀ (m : Nat) (hm : m < items.size), m < j → e items[m] = false) :
    Meets (Builtin.«tuple.index» { pos := [Value.ref l, x] }) fun A R s => IsTup s.heap l items ∧ (∀ y ∈ items, SeqAt.EqAt A.in1 s y x (e y)) ∧ R (Except.ok (Flow.ret (Value.int (j : Int) s.toks))) { s with toks := s.toks + 1 } := by
  intro prog w A R s ⟨ht, he, h⟩
  unfold Builtin.«tuple.index»
  refine wpAny_bind (m := selfAndSome _ _ _ _ _) ?_
  unfold selfAndSome noKeywords
  refine wpAny_bind (wpAny_ite_true rfl (wpAny_pure ?_))
  refine wpAny_bind ?_
  show wpAny _ _ (pure ()) _ _ s
  refine wpAny_pure (wpAny_pure ?_)
  refine wpAny_bind (tupleItemsOf_ ht ?_)
  show wpAny _ _ (pure 0 >>= _) _ _ s
  refine wpAny_bind (wpAny_pure ?_)
  show wpAny _ _ (pure items.size >>= _) _ _ s
  refine wpAny_bind (wpAny_pure ?_)
  refine wpAny_bind ?_
  rw [Std.Legacy.Range.forIn_eq_forIn_range']
  have e0 : ([0:min items.size items.size] : Std.Legacy.Range).size = items.size := by
    show (min items.size items.size - 0 + 1 - 1) / 1 = items.size
    rw [Nat.min_self, Nat.div_one]
    omega
  rw [e0]
  refine wpAny_forIn_list _ (fun rest b s' => b = (none, ()) ∧ s' = s ∧ ∃ k, k ≤ j ∧ rest = List.range' k (items.size - k)) _ ?_ ?_ _ _ ⟨rfl, rfl, 0, Nat.zero_le _, rfl⟩
  · rintro i rest b s' ⟨rfl, rfl, k, hk, er⟩
    have hk2 : k < items.size := by omega
    rw [show items.size - k = (items.size - (k + 1)) + 1 by omega, List.range'_succ] at er
    obtain ⟨rfl, rfl⟩ := List.cons.inj er
    have ei : items[i]? = some items[i] := Array.getElem?_eq_getElem hk2
    simp only [ei]
    refine wpAny_bind (he _ (Array.getElem_mem hk2) prog w _ _ ?_)
    by_cases hj2 : i = j
    · subst hj2
      rw [hit, if_pos rfl]
      refine wpAny_bind ?_
      unfold retInt
      refine wpAny_bind (wpAny_mkInt (wpAny_pure (wpAny_pure ?_)))
      exact wpAny_pure h
    · rw [hno i hk2 (by omega), if_neg (by decide)]
      exact wpAny_pure ⟨rfl, rfl, i + 1, by omega, rfl⟩
  · rintro b s' ⟨rfl, rfl, k, hk, er⟩
    have := congrArg List.length er
    rw [List.length_range'] at this
    simp at this
    omega
end HT
namespace L2
open PySem PySem.Spec PyProof.Rows
def rIndexTu (K : PySem.W.Frag) : V → List V → Hp → VK → Prop := fun x xs H Q => ∃ a ys y j z, x = V.ref a ∧ xs = [y] ∧ SqT K H a ys ∧ flatV y = true ∧ ys.all flatV = true ∧ ys[j]? = some z ∧ eqV z y = true ∧ (∀ (m : Nat) (z' : V), m < j → ys[m]? = some z' → eqV z' y = false) ∧ Q (V.int j) H
theorem mt_indexTu {X : Cx} : MtR X "tuple.index" (rIndexTu X.K) := fun pins s σ H x xs v us Q I rx rxs h => by
  obtain ⟨a, ys, y, j, z, rfl, rfl, hs, fy, fys, hz, hzj, hno, q⟩ := h
  cases rx
  cases rxs with
  | cons ry rt =>
    rename_i b ut
    cases rt
    obtain ⟨its, rv, ht, hlen⟩ := I.tuple hs
    have hvl := rv.length
    obtain ⟨u, hu, ru⟩ := rv.get hz
    obtain ⟨hjl, hje⟩ := List.getElem?_eq_some_iff.mp hu
    have hj : j < its.toArray.size := by rw [List.size_toArray]; exact hjl
    refine call_meets F.slot_tuple_index ht.typeIs F.entry_tuple_index (F.args_tuple_index_2 (Value.ref a) b) (HT.tuple_indexAt a its.toArray b (eqU y) j hj ?_ ?_) ⟨ht, fun u' hu' => mem_eqAt ry fy rv fys u' (by simpa using hu'), V.int j, H, I.tok (s.toks + 1), ⟨s.toks, rfl⟩, q⟩
    · have e1 : its.toArray[j] = u := hje
      rw [e1, eqU_of ru (flat_at fys hz)]
      exact hzj
    · intro m hm hmj
      have hml : m < its.length := by rw [List.size_toArray] at hm; exact hm
      have hmy : m < ys.length := by omega
      have hy' := List.getElem?_eq_getElem hmy
      obtain ⟨u2, hu2, ru2⟩ := rv.get hy'
      obtain ⟨_, hme⟩ := List.getElem?_eq_some_iff.mp hu2
      have e1 : its.toArray[m] = u2 := hme
      rw [e1, eqU_of ru2 (flat_at fys hy')]
      exact hno m _ hmj hy'
end L2
namespace Mir
open PySem PySem.Spec PyProof.Rows L2
def gIndexT : List PV → List PV → Store → Res PV
  | xs, [y], S => match xs.mapM toV, toV y with
    | some us, some u => match idxOf us u with
      | some j => .ok (.int j) S
      | none => .bad
    | _, _ => .bad
  | _, _, _ => .bad
/-- c.index(x), c a tuple of the module -/
def mIndexT (f : Rho → Store → Res PV) (fa : Rho → Store → Res (List PV)) : Rho → Store → Res PV := fun ρ S => (f ρ S).bind fun x S1 => match x with
  | .tup xs => (fa ρ S1).bind fun ys S2 => gIndexT xs ys S2
  | _ => .bad
def isK (K : PySem.W.Frag) (T : String) (v : V) : Prop := ∃ a o, v = .ref a ∧ K.lookup a = some o ∧ o.cls = Value.type T ∧ o.dict = none
def tixB (K : PySem.W.Frag) (T : String) (x : Str) : Bool := match PySem.W.nsIn K mainGlobals x with
  | some (some (.ref a)) => (match K.lookup a with
    | some ⟨.type c, d, _, _⟩ => decide (c = T) && d.isNone
    | _ => false)
  | _ => false
theorem tix_ok {K : PySem.W.Frag} {h : Heap} {mg : Str → Option Value} (X : K.In h) (G : h.Ns mainGlobals mg) {x : Str} {T : String} {v : V} {u : Value} (c : tixB K T x = true) (g : mg x = some u) (r : RelV v u) : isK K T v := by
  unfold tixB at c
  split at c
  · rename_i a e
    have e2 := PySem.W.mg_of X G e
    rw [g] at e2
    cases e2
    split at c
    · rename_i cc d dt sl el
      simp only [Bool.and_eq_true, decide_eq_true_eq] at c
      obtain ⟨rfl, hd⟩ := c
      have hd : d = none := by cases d <;> first | rfl | cases hd
      subst hd
      cases v <;> first | (obtain ⟨_, r⟩ := r; cases r) | (cases r) | skip
      exact ⟨a, _, rfl, el, rfl, rfl⟩
    · cases c
  · cases c
def tBMC (K : PySem.W.Frag) (T : String) (r : V → List V → Hp → VK → Prop) (to : TE) (t : TA) : TE := fun σ H Q => to σ H fun x H1 => isK K T x ∧ t σ H1 fun xs H2 => r x xs H2 Q
theorem pe_bmC {X : Cx} {o e : Expr} {es : List Expr} {to : TE} {t : TA} {name : Str} {apos cpos : Pos} {T id : String} {r : V → List V → Hp → VK → Prop} (pa : PlainAttrs T) (slot : PySem.Slot T name id) (hty : typeOf (Value.builtin id) = pure (Value.type "method_descriptor")) (hm : MtR X id r) (ho : PE X o to) (ha : PA X (e :: es) t)
    (hbase : attributeBase o name X.env (eval o X.env) = eval o X.env)
    (hfew : ((backTo cpos (starEach (e :: es) X.env)).all (fun x => !x.1) && (backToKw cpos (keywordEach [] X.env)).all (fun x => x.1.isSome) && decide ((e :: es).length + ([] : List Keyword).length + (if ([] : List Keyword).isEmpty then 0 else 1) < 30)) = true)
    (hline : (apos.endLine == cpos.line) = true) (hs : starEach (e :: es) X.env = (false, eval e X.env) :: starEach es X.env) (hplain : (backTo cpos (starEach es X.env)).any (·.1) = false) : PE X (.Call (.Attribute o name apos) (e :: es) [] cpos) (tBMC X.K T r to t) :=
  ⟨fun pins s σ H Q I h => wpAny_Call_method_late hbase hfew hline rfl (thn (ho.run pins s σ H (fun x H1 => isK X.K T x ∧ t σ H1 fun xs H2 => r x xs H2 Q) I h) fun v s1 ⟨x, H1, I1, r1, ⟨a, ob, ex, lk, hc, hd⟩, q1⟩ => by
    subst ex
    cases r1
    have hget := I1.kIn a ob lk
    refine ⟨T, id, pa, slot, hty, ⟨ob, hget, hc⟩, fun a' e' => by cases e'; exact ⟨ob, hget, hd⟩, ?_⟩
    have hA := ha.run cpos pins s1 σ H1 (fun xs H2 => r (.ref a) xs H2 Q) I1 q1
    rw [hs] at hA ⊢
    refine Calls.callWith_builtin ?_ (Calls.evalArgs_plain (thn hA fun us s2 ⟨vs, H2, I2, r2, q2⟩ => hm pins s2 σ H2 (.ref a) vs (.ref a) us Q I2 rfl r2 q2))
    show (false || (backTo cpos (starEach es X.env)).any (·.1)) = false
    rw [hplain]
    rfl)⟩
theorem sim_indexT {K : PySem.W.Frag} {mg : Str → Option Value} {G : Wd} {E : EK} {v : V} {c : PV} {ta fa} (hc : isK K "tuple" v) (hy : ∀ L Hc, RV K L Hc c v) (ha : ASim K mg G E ta fa) : ESim K mg G E (tBMC K "tuple" (rIndexTu K) (tC v) ta) (mIndexT (mC c) fa) := fun w ρ σ Q I q => by
  refine ⟨hc, ?_⟩
  have q1 : Good (match c with
    | .tup xs => (fa ρ w.S).bind fun ys S2 => gIndexT xs ys S2
    | _ => .bad) (PostV K w Q) (ExP K mg (E σ) w) := q
  have r1 := hy w.L w.hc
  cases c <;> first | exact q1.elim | skip
  rename_i xs
  obtain ⟨a, vs, rfl, g1, g2⟩ := r1
  refine ha w ρ σ _ I (Good.imp (Good.bind1 q1) (fun ys S2 q2 => ?_) fun _ _ _ h => h)
  intro w2 us e2 s2 k2 r2
  subst e2
  match ys, q2, r2 with
  | [y], q2, r2 =>
    obtain ⟨v, rfl, rv⟩ := vs1 r2
    have q2 : Good (match xs.mapM toV, toV y with
      | some us, some u => (match idxOf us u with
        | some j => Res.ok (PV.int j) w2.S
        | none => Res.bad)
      | _, _ => Res.bad) (PostV K w Q) (ExP K mg (E σ) w) := q2
    split at q2
    · rename_i us u h1 h2
      split at q2
      · rename_i j hj
        obtain ⟨z, z1, z2, z3⟩ := idxOf_ok hj
        have e3 := toVs_rv h1 (g2.mono s2.pre (s2.ext I.ok.sub))
        have e4 := toV_rv h2 rv
        subst e3 e4
        exact ⟨a, _, _, j, z, rfl, rfl, hc_sqT (sqT_mono (s2.ext I.ok.sub) g1), toV_flat h2, toVs_flat h1, z1, z2, z3, q2 w2 _ rfl s2 k2 rfl⟩
      · exact q2.elim
    · exact q2.elim
  | [], q2, _ => exact q2.elim
  | _ :: _ :: _, q2, _ => exact q2.elim
section
variable {X : Cx} {G : Wd} {E : EK} (K : PySem.W.Frag)
theorem fe_indexT {x : Str} {p : Pos} {e : Expr} {v : V} {u : Value} {c : PV} {ta fa} {ap cp : Pos} (hg : Gl X x) (hm : X.mg x = some u) (r : RelV v u) (hy : ∀ L Hc, RV K L Hc c v) (hc : isK K "tuple" v) (ha : FA X G E [e] ta fa) (hK : X.K = K := by rfl) (hd : (x == ("__debug__" : Str)) = false := by decide)
    (hbase : attributeBase (.Name x p) "index" X.env (eval (.Name x p) X.env) = eval (.Name x p) X.env := by rfl)
    (hfew : ((backTo cp (starEach [e] X.env)).all (fun x => !x.1) && (backToKw cp (keywordEach [] X.env)).all (fun x => x.1.isSome) && decide ([e].length + ([] : List Keyword).length + (if ([] : List Keyword).isEmpty then 0 else 1) < 30)) = true := by rfl)
    (hline : (ap.endLine == cp.line) = true := by rfl) (hs : starEach [e] X.env = (false, eval e X.env) :: starEach [] X.env := by rfl) :
    FE X G E (.Call (.Attribute (.Name x p) "index" ap) [e] [] cp) (tBMC X.K "tuple" (rIndexTu X.K) (tC v) ta) (mIndexT (mC c) fa) := by
  subst hK
  exact ⟨pe_bmC PySem.F.plainAttrs_tuple PySem.F.slot_tuple_index PySem.F.type_tuple_index mt_indexTu (pe_glob hg hm r hd) ha.pe hbase hfew hline hs (by rfl), sim_indexT hc hy ha.sim⟩
end
/-! ### calls that return a new list, which the caller may take as its own -/
def PostNX (K : PySem.W.Frag) (G : Wd) (Q : VK) : SO → Store → Prop := fun o S' => ∀ w' p, w'.S = S' → WStep G w' → WOk K w' → G.H p = none → p ∈ w'.O → p ∉ w'.L → SOk K w'.L (cut w'.H (G.O ++ w'.L ++ [p])) (w'.H p) o → Q (.ref p) w'.H
def spO (K : PySem.W.Frag) (mg : Str → Option Value) (n : Nat) (m : List PV → Store → Res SO) : Sp := fun vs H Q E => ∃ xs w, w.H = H ∧ WOk K w ∧ RVs K w.L w.hc xs vs ∧ xs.length = n ∧ Good (m xs w.S) (PostNX K w Q) (ExP K mg E w)
def mDefO (nN : Nat) (f : Rho → Store → Res SO) : List PV → Store → Res SO := fun xs S => f (rho0 nN xs) S
theorem spO_len {K : PySem.W.Frag} {mg : Str → Option Value} {n : Nat} {m} : ∀ vs H Q E, spO K mg n m vs H Q E → vs.length = n := fun vs H Q E ⟨xs, w, _, _, r, hl, _⟩ => r.len.trans hl
theorem fnG_badO {P : Program} {w : World} {K : PySem.W.Frag} {mg : Str → Option Value} {base : Heap} {k n : Nat} {f : Addr} {fd : FuncData} {ps : List Str} (hn : n = ps.length) : FnG P w K mg base k f fd ps (spO K mg n fun _ _ => .bad) :=
  ⟨fun vs H Q E h => (spO_len vs H Q E h).trans hn, fun _ _ _ _ _ _ _ _ _ _ _ _ _ _ ⟨_, _, _, _, _, _, g⟩ => g.elim⟩
theorem post_own {K : PySem.W.Frag} {w w1 : Wd} {Q : VK} {o : SO} {S : Store} (k : WOk K w) (k1 : WOk K w1) (s1 : WStep w w1) (h : PostN K w Q o S) : PostNX K w1 Q o S := fun w' p e s' k' hp hO hL r => by
  have hO2 : ∀ a ∈ w1.O ++ w'.L ++ [p], a ∈ w'.O := fun a h => by
    rcases List.mem_append.mp h with h | h
    · exact (List.mem_append.mp h).elim (s'.omono a) (k'.sub a)
    · rw [List.mem_singleton.mp h]; exact hO
  have ext : ∀ a o, w'.hc a = some o → cut w'.H (w1.O ++ w'.L ++ [p]) a = some o := fun a o h => by
    obtain ⟨h1, h2⟩ := cut_some h
    rw [cut_out fun z => h1 (hO2 a z)]
    exact h2
  have hp0 : w.H p = none := by
    cases q : w.H p with
    | none => rfl
    | some o =>
      by_cases z : p ∈ w.L
      · exact absurd ((s1.pre.trans s'.pre).subset z) hL
      · rw [s1.keep p o q z] at hp; cases hp
  refine h { w' with O := w1.O ++ w'.L ++ [p] } p e (s1.tr (w1 := w1) ⟨s'.pre, s'.keep, fun a h => List.mem_append_left _ (List.mem_append_left _ h), fun a h => ?_, s'.lset⟩ k k1) ⟨fun a h => List.mem_append_left _ (List.mem_append_right _ h), k'.nd, k'.len, fun n o a h1 h2 => (k'.st n o a h1 h2).mono (List.prefix_refl _) ext, fun a h => k'.dom a (hO2 a h)⟩ hp0 (List.mem_append_right _ (List.mem_singleton.mpr rfl)) hL r
  rcases List.mem_append.mp h with h | h
  · rcases List.mem_append.mp h with h | h
    · exact .inl h
    · rcases s'.lset a h with z | z
      · exact .inl (k1.sub a z)
      · exact .inr z
  · rw [List.mem_singleton.mp h]
    exact .inr hp
theorem post_ret {K : PySem.W.Frag} {w : Wd} {Q : VK} {o : SO} {S : Store} (h : PostNX K w Q o S) : PostN K w Q o S := fun w' p e s' k' hp hO hL r => by
  refine h w' p e s' k' hp hO hL (r.mono (List.prefix_refl _) fun a o h => ?_)
  obtain ⟨h1, h2⟩ := cut_some h
  rw [cut_out fun z => h1 ?_]
  · exact h2
  · rcases List.mem_append.mp z with z | z
    · exact (List.mem_append.mp z).elim (s'.omono a) (k'.sub a)
    · rw [List.mem_singleton.mp z]; exact hO
/-- a def of one statement, return of a new list -/
theorem ok_defO {P : Program} {w : World} {K : PySem.W.Frag} {mg : Str → Option Value} {base : Heap} {x qual : Str} {st : Stmt} {f : Addr} {fd : FuncData} {N ps : List Str} {k : Nat} {fm : Rho → Store → Res SO} {e : Expr} {pos : Pos}
    (F : Fun K x qual st f fd) (S : FnScope N ps (defScope st)) (hbody : defBody st = [.Return (some e) pos])
    (body : ∀ (cdv : Value) (A : Around) (outer : List Env) (s : Shared) (H : Hp) (E : XK), A.guards = some [] → Room k (A.deeper (envOfC qual (defScope st) s.heap.objs.size f cdv)) →
      ∃ te, ∀ G, FN (cxOf (L2.CX P w) P w K mg base N qual (defScope st) f cdv A outer s H E) G (fun _ => E) e te fm) :
    FnG P w K mg base (k + 1) f fd ps (spO K mg ps.length (mDefO N.length fm)) := by
  refine fnG_of F S spO_len fun cdv A outer s H vs Q E hg hr h => ?_
  obtain ⟨te, hb⟩ := body cdv A outer s H E hg hr
  rw [hbody]
  refine ⟨_, (fss_one (fs_ret (hb ⟨[], [], fun _ => none, [], none⟩).fe)).pe, ?_⟩
  obtain ⟨xs, w0, rfl, k0, r, hl, g⟩ := h
  exact (hb w0).sim w0 _ _ _ (FI.begin k0 r) (Good.imp g (fun o S h => post_ret h) fun _ _ _ h => h)
def mCallO (n : Nat) (m : List PV → Store → Res SO) (fa : Rho → Store → Res (List PV)) : Rho → Store → Res SO := fun ρ S => (fa ρ S).bind fun xs S1 => if xs.length = n then m xs S1 else .bad
theorem sim_callO {K : PySem.W.Frag} {mg : Str → Option Value} {G : Wd} {E : EK} {n : Nat} {m : List PV → Store → Res SO} {t : TA} {fa} (ha : ASim K mg G E t fa) : NSim K mg G E (tCallSD (spO K mg n m) [] E t) (mCallO n m fa) := fun w ρ σ Q I q => by
  refine ha w ρ σ _ I (Good.imp (Good.bind1 q) (fun xs S1 h1 => ?_) fun _ _ _ h => h)
  intro w1 vs e1 s1 k1 r1
  subst e1
  obtain ⟨c, h1⟩ := good_if h1
  exact ⟨xs, w1, rfl, k1, by rw [List.append_nil]; exact r1, c, Good.imp h1 (fun x S h => post_own I.ok k1 s1 h) fun _ _ _ h => h.step s1 I.ok k1⟩
theorem kn_call {P : Program} {w : World} {K : PySem.W.Frag} {mg : Str → Option Value} {base : Heap} {X : Cx} {G : Wd} {E : EK} {k : Nat} {f : Addr} {fd : FuncData} {ps : List Str} {n : Nat} {m : List PV → Store → Res SO} {x : Str} {p pos e es t fa} (F : FnG P w K mg base k f fd ps (spO K mg n m)) (hg0 : X.A.guards = some []) (hr : Room k X.A) (hm : mg x = some (.ref f)) (hk : PySem.W.keepIn K (.ref f) = true)
    (hb : Binds K fd ps []) (hx : ∀ σ, PassesAt (L2.CX X.prog X.w) X σ (E σ)) (ha : FA X G E (e :: es) t fa) (hP : X.prog = P := by rfl) (hw : X.w = w := by rfl) (hK : X.K = K := by rfl) (hmg : X.mg = mg := by rfl) (hbs : X.base = base := by rfl) (hg : Gl X x := by rfl) (hdb : (x == ("__debug__" : Str)) = false := by decide) (he : starEach (e :: es) X.env = (false, eval e X.env) :: starEach es X.env := by rfl)
    (hpl : (backTo pos (starEach es X.env)).any (·.1) = false := by rfl) : FN X G E (.Call (.Name x p) (e :: es) [] pos) (tCallSD (spO K mg n m) [] E t) (mCallO n m fa) := by
  subst hP hw hK hmg hbs
  exact ⟨peG_call F hg0 hr hg hm hk hb .nil hx ha.pe hdb he hpl, sim_callO ha.sim⟩
end Mir
set_option maxHeartbeats 4000000
/-! MirV: zip of a tuple and a list. -/
namespace PySem
open AutoSeq1 (wpAny_loadPart')
open Sem (wp)
abbrev mH1 (h : Heap) (l1 : Addr) : Heap := h.push { cls := .type "tuple_iterator", data := .fields #[.ref l1, .int 0 0] }
abbrev mH2 (h : Heap) (l1 l2 : Addr) : Heap := (mH1 h l1).push { cls := .type "list_iterator", data := .fields #[.ref l2, .int 0 0] }
abbrev mH3 (h : Heap) (l1 l2 : Addr) : Heap := (mH2 h l1 l2).push { cls := .type "tuple", data := .seq #[.ref h.objs.size, .ref (mH1 h l1).objs.size] }
abbrev mH4 (h : Heap) (l1 l2 : Addr) : Heap := (mH3 h l1 l2).push { cls := .type "tuple", data := .seq #[.none, .none] }
abbrev mH5 (h : Heap) (l1 l2 : Addr) : Heap := (mH4 h l1 l2).push { cls := .type "zip", data := .fields #[.none, .bool false, .bool false, .ref (mH2 h l1 l2).objs.size, .ref (mH3 h l1 l2).objs.size] }
theorem meetsZipM (l1 l2 : Addr) (xs ys : Array Value) : Meets (Builtin.«zip.__new__» ⟨[.type "zip", .ref l1, .ref l2], []⟩) (fun _ R s => s.heap.IsTuple l1 xs ∧ s.heap.IsList l2 ys ∧ R (.ok (.ret (.ref (mH4 s.heap l1 l2).objs.size))) { s with heap := mH5 s.heap l1 l2 }) :=
  .of_wp fun prog w A R sh q => by
    obtain ⟨hp, g1, dd1, t1, o1⟩ := sh
    obtain ⟨ht, hl, q⟩ := q
    have sub1 := sub_zip
    have hl2 : Heap.IsList (Shared.heap ⟨mH1 hp l1, g1, dd1, t1, o1⟩) l2 ys := by
      obtain ⟨o, e, r⟩ := hl
      exact ⟨o, Heap.get?_push_of_some _ e, r⟩
    wp_walk using wpAny_pyIter_tuple ht, wpAny_pyIter_list hl2
    exact ⟨_, rfl, q⟩
section
variable {prog : Program} {w : World} {A : Around} {E : Value → Shared → Prop} {s : Shared}
theorem callZipM {l1 l2 : Addr} {xs ys : Array Value} {Q : Value → Shared → Prop} (h1 : s.heap.IsTuple l1 xs) (h2 : s.heap.IsList l2 ys)
    (q : ∀ h', IsZip h' (s.heap.objs.size + 4) (s.heap.objs.size + 2) (s.heap.objs.size + 3) .none → IsPair h' (s.heap.objs.size + 2) (.ref s.heap.objs.size) (.ref (s.heap.objs.size + 1)) → IsPair h' (s.heap.objs.size + 3) .none .none → h'.IsTupleIter s.heap.objs.size l1 0 → h'.IsListIter (s.heap.objs.size + 1) l2 0 →
      (∀ c o, s.heap.get? c = some o → h'.get? c = some o) → Q (.ref (s.heap.objs.size + 4)) { s with heap := h' }) :
    wpAny (model prog w) A (call (.type "zip") [.ref l1, .ref l2]) Q E s := by
  refine callType_new F.called_zip (by decide) (F.typeCall_zip_2 _ _) (F.newCall_zip_2 _ _) (fun ob => F.args_object_init_3 ob _ _) F.entry_zip_new (meetsZipM l1 l2 xs ys) ⟨h1, h2, ?_⟩
  have z1 : (mH1 s.heap l1).objs.size = s.heap.objs.size + 1 := Heap.size_push ..
  have z2 : (mH2 s.heap l1 l2).objs.size = s.heap.objs.size + 2 := (Heap.size_push ..).trans (by rw [z1])
  have z3 : (mH3 s.heap l1 l2).objs.size = s.heap.objs.size + 3 := (Heap.size_push ..).trans (by rw [z2])
  have z4 : (mH4 s.heap l1 l2).objs.size = s.heap.objs.size + 4 := (Heap.size_push ..).trans (by rw [z3])
  have g0 : (mH5 s.heap l1 l2).get? s.heap.objs.size = some { cls := .type "tuple_iterator", data := .fields #[.ref l1, .int 0 0] } := Heap.get?_push_of_some _ (Heap.get?_push_of_some _ (Heap.get?_push_of_some _ (Heap.get?_push_of_some _ (Heap.get?_push_size _ rfl))))
  have g1 : (mH5 s.heap l1 l2).get? (s.heap.objs.size + 1) = some { cls := .type "list_iterator", data := .fields #[.ref l2, .int 0 0] } := by
    have : (mH5 s.heap l1 l2).get? (mH1 s.heap l1).objs.size = _ := Heap.get?_push_of_some _ (Heap.get?_push_of_some _ (Heap.get?_push_of_some _ (Heap.get?_push_size _ rfl)))
    rwa [z1] at this
  have g2 : IsPair (mH5 s.heap l1 l2) (s.heap.objs.size + 2) (.ref s.heap.objs.size) (.ref (s.heap.objs.size + 1)) := by
    have : (mH5 s.heap l1 l2).get? (mH2 s.heap l1 l2).objs.size = _ := Heap.get?_push_of_some _ (Heap.get?_push_of_some _ (Heap.get?_push_size _ rfl))
    rwa [z2, z1] at this
  have g3 : IsPair (mH5 s.heap l1 l2) (s.heap.objs.size + 3) .none .none := by
    have : (mH5 s.heap l1 l2).get? (mH3 s.heap l1 l2).objs.size = _ := Heap.get?_push_of_some _ (Heap.get?_push_size _ rfl)
    rwa [z3] at this
  have g4 : IsZip (mH5 s.heap l1 l2) (s.heap.objs.size + 4) (s.heap.objs.size + 2) (s.heap.objs.size + 3) .none := by
    have : (mH5 s.heap l1 l2).get? (mH4 s.heap l1 l2).objs.size = _ := Heap.get?_push_size _ rfl
    rwa [z4, z3, z2] at this
  show _ ∧ _
  rw [z4]
  exact ⟨⟨_, g4, rfl⟩, q _ g4 g2 g3 ⟨_, g0, rfl, rfl⟩ ⟨_, g1, rfl, rfl⟩ fun c o e => Heap.get?_push_of_some _ (Heap.get?_push_of_some _ (Heap.get?_push_of_some _ (Heap.get?_push_of_some _ (Heap.get?_push_of_some _ e))))⟩
theorem zipM_next_item {z TI TO i1 i2 l1 l2 : Addr} {k1 k2 : Nat} {xs ys : Array Value} {x y a b : Value} {Q : Value → Shared → Prop} (ap : ZipApart z TI TO i1 i2 l1 l2) (hz : IsZip s.heap z TI TO .none) (hI : IsPair s.heap TI (.ref i1) (.ref i2)) (hO : IsPair s.heap TO a b) (h1 : s.heap.IsTupleIter i1 l1 k1) (h2 : s.heap.IsListIter i2 l2 k2) (t1 : s.heap.IsTuple l1 xs) (t2 : s.heap.IsList l2 ys) (e1 : xs[k1]? = some x) (e2 : ys[k2]? = some y)
    (q : ∀ h', IsZip h' z TI TO (rawInt s.heap.objs.size) → IsPair h' TO x y → h'.IsTupleIter i1 l1 (k1 + 1) → h'.IsListIter i2 l2 (k2 + 1) → IsPair h' s.heap.objs.size x y → h'.objs.size = s.heap.objs.size + 1 → (∀ c o, c ≠ z → c ≠ TO → c ≠ i1 → c ≠ i2 → s.heap.get? c = some o → h'.get? c = some o) → Q (.ref s.heap.objs.size) { s with heap := h' }) :
    wpAny (model prog w) A (Builtin.«zip.__next__» { pos := [.ref z] }) (fun fin s' => ∃ v, fin = .done (.ret v) ∧ Q v s') E s := by
  unfold Builtin.«zip.__next__»
  refine wpAny_bind ?_
  show wpAny _ _ (pure (Value.ref z, [])) _ _ s
  refine wpAny_pure ?_
  refine wpAny_bind (wpAny_field hz rfl (x := .bool false) rfl ?_)
  refine wpAny_bind (wpAny_field hz rfl (x := .ref TI) rfl ?_)
  refine wpAny_bind (wpAny_seqItems hI rfl ?_)
  refine wpAny_bind ?_
  unfold Builtin.SmallTypes.ownedTupleIsFree
  refine wpAny_bind (wpAny_field hz rfl (x := .none) rfl (wpAny_pure ?_))
  refine wpAny_bind (wpAny_rule ?_)
  refine wpAny_bind (wpAny_field hz rfl (x := .ref TO) rfl ?_)
  refine wpAny_bind (wpAny_setField hz rfl (by show 0 < 5; decide) ?_)
  -- heap A: z marked
  generalize eA : s.heap.update z (Obj.mapFields fun x_1 => x_1.setIfInBounds 0 Value.ellipsis) = hA
  have zA : hA.get? z = some { cls := .type "zip", data := .fields #[.ellipsis, .bool false, .bool false, .ref TI, .ref TO] } := by rw [← eA]; exact Heap.get?_update_self _ hz rfl
  have kA : ∀ c, c ≠ z → hA.get? c = s.heap.get? c := fun c hc => by rw [← eA]; exact Heap.get?_update_ne _ _ _ _ hc
  have nA : hA.objs.size = s.heap.objs.size := by rw [← eA]; exact Heap.size_update ..
  have h1A : hA.IsTupleIter i1 l1 k1 := h1.at fun o e => (kA i1 ap.i1z).trans e
  have t1A : hA.IsTuple l1 xs := by obtain ⟨o, e, r⟩ := t1; exact ⟨o, (kA l1 ap.l1z).trans e, r⟩
  refine wpAny_bind ?_
  rw [show (#[Value.ref i1, Value.ref i2].toList.zipIdx : List (Value × Nat)) = [(Value.ref i1, 0), (Value.ref i2, 1)] from rfl, List.forIn_cons]
  refine wpAny_bind ?_
  refine wpAny_bind (wpAny_onRaise ?_)
  show wpAny _ _ (Builtin.SmallTypes.nextOf (Value.ref i1) >>= fun v => pure (some v)) _ _ _
  refine wpAny_bind (RZ.nextOf_tuple_item (s := { s with heap := hA }) h1A t1A e1 fun hB h1B sB => wpAny_pure ?_)
  have kB : ∀ c, c ≠ i1 → hB.get? c = hA.get? c := sB.2
  have nB : hB.objs.size = s.heap.objs.size := sB.1.trans nA
  have zB := (kB z (Ne.symm ap.i1z)).trans zA
  have oB : IsPair hB TO a b := ((kB TO ap.TOi1).trans (kA TO ap.TOz)).trans hO
  refine wpAny_bind (wpAny_seqItems (s := { s with heap := hB }) oB rfl ?_)
  refine wpAny_bind (wpAny_updateSeq (s := { s with heap := hB }) oB rfl ?_ (by show 2 ≤ sizeLine; decide) (by show 2 ≤ sizeLine + 1; decide))
  generalize eC : hB.update TO (Obj.mapSeq fun x_1 => x_1.setIfInBounds 0 x) = hC
  have oC : IsPair hC TO x b := by rw [← eC]; exact Heap.get?_update_self _ oB rfl
  have kC : ∀ c, c ≠ TO → hC.get? c = hB.get? c := fun c hc => by rw [← eC]; exact Heap.get?_update_ne _ _ _ _ hc
  have nC : hC.objs.size = s.heap.objs.size := by rw [← eC]; exact (Heap.size_update ..).trans nB
  refine wpAny_bind (wpAny_letGo (wpAny_pure ?_))
  -- the second
  have zC := (kC z (Ne.symm ap.TOz)).trans zB
  have h1C : hC.IsTupleIter i1 l1 (k1 + 1) := h1B.at fun o e => (kC i1 (Ne.symm ap.TOi1)).trans e
  have h2C : hC.IsListIter i2 l2 k2 := h2.at fun o e => ((kC i2 (Ne.symm ap.TOi2)).trans ((kB i2 (Ne.symm ap.i12)).trans (kA i2 ap.i2z))).trans e
  have t2C : hC.IsList l2 ys := by obtain ⟨o, e, r⟩ := t2; exact ⟨o, ((kC l2 ap.l2TO).trans ((kB l2 ap.l2i1).trans (kA l2 ap.l2z))).trans e, r⟩
  show wpAny _ _ (forIn [(Value.ref i2, 1)] _ _) _ _ _
  rw [List.forIn_cons]
  refine wpAny_bind ?_
  refine wpAny_bind (wpAny_onRaise ?_)
  show wpAny _ _ (Builtin.SmallTypes.nextOf (Value.ref i2) >>= fun v => pure (some v)) _ _ _
  refine wpAny_bind (wpAny_nextOf_list_item (s := { s with heap := hC }) h2C t2C e2 fun hD h2D sD => wpAny_pure ?_)
  have kD : ∀ c, c ≠ i2 → hD.get? c = hC.get? c := sD.2
  have nD : hD.objs.size = s.heap.objs.size := sD.1.trans nC
  have oD : IsPair hD TO x b := (kD TO ap.TOi2).trans oC
  refine wpAny_bind (wpAny_seqItems (s := { s with heap := hD }) oD rfl ?_)
  refine wpAny_bind (wpAny_updateSeq (s := { s with heap := hD }) oD rfl ?_ (by show 2 ≤ sizeLine; decide) (by show 2 ≤ sizeLine + 1; decide))
  generalize eF : hD.update TO (Obj.mapSeq fun x_1 => x_1.setIfInBounds 1 y) = hF
  have oF : IsPair hF TO x y := by rw [← eF]; exact Heap.get?_update_self _ oD rfl
  have kF : ∀ c, c ≠ TO → hF.get? c = hD.get? c := fun c hc => by rw [← eF]; exact Heap.get?_update_ne _ _ _ _ hc
  have nF : hF.objs.size = s.heap.objs.size := by rw [← eF]; exact (Heap.size_update ..).trans nD
  refine wpAny_bind (wpAny_letGo (wpAny_pure ?_))
  show wpAny _ _ (forIn ([] : List (Value × Nat)) _ _) _ _ _
  rw [List.forIn_nil]
  refine wpAny_pure ?_
  refine wpAny_bind (wpAny_seqItems (s := { s with heap := hF }) oF rfl ?_)
  have zF : hF.get? z = some { cls := .type "zip", data := .fields #[.ellipsis, .bool false, .bool false, .ref TI, .ref TO] } := (kF z (Ne.symm ap.TOz)).trans ((kD z (Ne.symm ap.i2z)).trans zC)
  show wpAny _ _ (newTuple [x, y] >>= _) _ _ _
  refine wpAny_bind (wpAny_newTuple (s := { s with heap := hF }) ?_ (by show 2 ≤ sizeLine; decide))
  show wpAny _ _ _ _ _ { s with heap := hF.push { cls := .type "tuple", data := .seq #[x, y] } }
  generalize eG : hF.push { cls := .type "tuple", data := .seq #[x, y] } = hG
  have gG : ∀ c o, hF.get? c = some o → hG.get? c = some o := fun c o e => by rw [← eG]; exact Heap.get?_push_of_some _ e
  have pG : IsPair hG s.heap.objs.size x y := by
    rw [← eG, ← nF]
    exact Heap.get?_push_size _ rfl
  have nG : hG.objs.size = s.heap.objs.size + 1 := by rw [← eG]; exact (Heap.size_push ..).trans (by rw [nF])
  show wpAny _ _ (Builtin.SmallTypes.ownedTupleHandOut (Value.ref z) (Value.ref hF.objs.size) >>= fun _ => ret (Value.ref hF.objs.size)) _ _ _
  rw [nF]
  refine wpAny_bind ?_
  show wpAny _ _ (setField (Value.ref z) 0 (rawInt s.heap.objs.size) >>= fun _ => setField (Value.ref z) 1 (.bool false)) _ _ _
  refine wpAny_bind (wpAny_setField (s := { s with heap := hG }) (gG z _ zF) rfl (by show 0 < 5; decide) ?_)
  generalize eI : hG.update z (Obj.mapFields fun x_1 => x_1.setIfInBounds 0 (rawInt s.heap.objs.size)) = hI2
  have zI : hI2.get? z = some { cls := .type "zip", data := .fields #[rawInt s.heap.objs.size, .bool false, .bool false, .ref TI, .ref TO] } := by rw [← eI]; exact Heap.get?_update_self _ (gG z _ zF) rfl
  have kI : ∀ c, c ≠ z → hI2.get? c = hG.get? c := fun c hc => by rw [← eI]; exact Heap.get?_update_ne _ _ _ _ hc
  have nI : hI2.objs.size = s.heap.objs.size + 1 := by rw [← eI]; exact (Heap.size_update ..).trans nG
  refine wpAny_setField (s := { s with heap := hI2 }) zI rfl (by show 1 < 5; decide) ?_
  generalize eJ : hI2.update z (Obj.mapFields fun x_1 => x_1.setIfInBounds 1 (.bool false)) = hJ
  have zJ : IsZip hJ z TI TO (rawInt s.heap.objs.size) := by rw [← eJ]; exact Heap.get?_update_self _ zI rfl
  have kJ : ∀ c, c ≠ z → hJ.get? c = hI2.get? c := fun c hc => by rw [← eJ]; exact Heap.get?_update_ne _ _ _ _ hc
  have nJ : hJ.objs.size = s.heap.objs.size + 1 := by rw [← eJ]; exact (Heap.size_update ..).trans nI
  have hlt : z < s.heap.objs.size := Heap.lt_size hz
  have up : ∀ c o, c ≠ z → hF.get? c = some o → hJ.get? c = some o := fun c o hc e => (kJ c hc).trans ((kI c hc).trans (gG c o e))
  refine wpAny_pure ⟨_, rfl, q hJ zJ (up TO _ ap.TOz oF) ?_ ?_ ?_ nJ ?_⟩
  · exact (h1C.at fun o e => (kF i1 (Ne.symm ap.TOi1)).trans ((kD i1 ap.i12).trans e)).at fun o e => up i1 o ap.i1z e
  · exact (h2D.at fun o e => (kF i2 (Ne.symm ap.TOi2)).trans e).at fun o e => up i2 o ap.i2z e
  · exact (kJ _ (Nat.ne_of_gt hlt)).trans ((kI _ (Nat.ne_of_gt hlt)).trans pG)
  · intro c o c1 c2 c3 c4 e
    refine up c o c1 ?_
    rw [kF c c2, kD c c4, kC c c2, kB c c3, kA c c1]
    exact e
theorem zipM_next_end {z TI TO i1 i2 l1 l2 : Addr} {k1 k2 : Nat} {xs ys : Array Value} {a b : Value} {Q : Fin → Shared → Prop} (hh : A.handled = none) (ap : ZipApart z TI TO i1 i2 l1 l2) (hz : IsZip s.heap z TI TO .none) (hI : IsPair s.heap TI (.ref i1) (.ref i2)) (hO : IsPair s.heap TO a b) (h1 : s.heap.IsTupleIter i1 l1 k1) (h2 : s.heap.IsListIter i2 l2 k2) (t1 : s.heap.IsTuple l1 xs) (t2 : s.heap.IsList l2 ys) (e : xs[k1]? = none ∨ ys[k2]? = none)
    (q : ∀ (h' : Heap) (ex : Addr), (∀ c o, c ≠ z → c ≠ TO → c ≠ i1 → c ≠ i2 → s.heap.get? c = some o → h'.get? c = some o) → (∃ o, h'.get? ex = some o ∧ o.cls = Value.type "StopIteration") → E (.ref ex) { s with heap := h' }) :
    wpAny (model prog w) A (Builtin.«zip.__next__» { pos := [.ref z] }) Q E s := by
  unfold Builtin.«zip.__next__»
  refine wpAny_bind ?_
  show wpAny _ _ (pure (Value.ref z, [])) _ _ s
  refine wpAny_pure ?_
  refine wpAny_bind (wpAny_field hz rfl (x := .bool false) rfl ?_)
  refine wpAny_bind (wpAny_field hz rfl (x := .ref TI) rfl ?_)
  refine wpAny_bind (wpAny_seqItems hI rfl ?_)
  refine wpAny_bind ?_
  unfold Builtin.SmallTypes.ownedTupleIsFree
  refine wpAny_bind (wpAny_field hz rfl (x := .none) rfl (wpAny_pure ?_))
  refine wpAny_bind (wpAny_rule ?_)
  refine wpAny_bind (wpAny_field hz rfl (x := .ref TO) rfl ?_)
  refine wpAny_bind (wpAny_setField hz rfl (by show 0 < 5; decide) ?_)
  generalize eA : s.heap.update z (Obj.mapFields fun x_1 => x_1.setIfInBounds 0 Value.ellipsis) = hA
  have zA : hA.get? z = some { cls := .type "zip", data := .fields #[.ellipsis, .bool false, .bool false, .ref TI, .ref TO] } := by rw [← eA]; exact Heap.get?_update_self _ hz rfl
  have kA : ∀ c, c ≠ z → hA.get? c = s.heap.get? c := fun c hc => by rw [← eA]; exact Heap.get?_update_ne _ _ _ _ hc
  have h1A : hA.IsTupleIter i1 l1 k1 := h1.at fun o e => (kA i1 ap.i1z).trans e
  have t1A : hA.IsTuple l1 xs := by obtain ⟨o, e, r⟩ := t1; exact ⟨o, (kA l1 ap.l1z).trans e, r⟩
  refine wpAny_bind ?_
  rw [show (#[Value.ref i1, Value.ref i2].toList.zipIdx : List (Value × Nat)) = [(Value.ref i1, 0), (Value.ref i2, 1)] from rfl, List.forIn_cons]
  refine wpAny_bind ?_
  refine wpAny_bind (wpAny_onRaise ?_)
  show wpAny _ _ (Builtin.SmallTypes.nextOf (Value.ref i1) >>= fun v => pure (some v)) _ _ _
  cases e1 : xs[k1]? with
  | none =>
    refine wpAny_bind (RZ.nextOf_tuple_end (s := { s with heap := hA }) hh h1A t1A e1 fun hB ex kB hx => ?_)
    have zB := kB z _ (Ne.symm ap.i1z) zA
    refine wpAny_setField (s := { s with heap := hB }) zB rfl (by show 0 < 5; decide) ?_
    generalize eC : hB.update z (Obj.mapFields fun x_1 => x_1.setIfInBounds 0 Value.none) = hC
    have kC : ∀ c, c ≠ z → hC.get? c = hB.get? c := fun c hc => by rw [← eC]; exact Heap.get?_update_ne _ _ _ _ hc
    refine q hC ex (fun c o c1 c2 c3 c4 e => ?_) ?_
    · rw [kC c c1]
      exact kB c o c3 ((kA c c1).trans e)
    · obtain ⟨o, ho, ec⟩ := hx
      by_cases hez : ex = z
      · subst hez
        rw [zB] at ho
        cases ho
        injection ec with h
        exact absurd h (by decide)
      · exact ⟨o, (kC ex hez).trans ho, ec⟩
  | some x =>
    have e2 : ys[k2]? = none := e.resolve_left (by rw [e1]; exact fun h => nomatch h)
    refine wpAny_bind (RZ.nextOf_tuple_item (s := { s with heap := hA }) h1A t1A e1 fun hB h1B sB => wpAny_pure ?_)
    have kB : ∀ c, c ≠ i1 → hB.get? c = hA.get? c := sB.2
    have zB := (kB z (Ne.symm ap.i1z)).trans zA
    have oB : IsPair hB TO a b := ((kB TO ap.TOi1).trans (kA TO ap.TOz)).trans hO
    refine wpAny_bind (wpAny_seqItems (s := { s with heap := hB }) oB rfl ?_)
    refine wpAny_bind (wpAny_updateSeq (s := { s with heap := hB }) oB rfl ?_ (by show 2 ≤ sizeLine; decide) (by show 2 ≤ sizeLine + 1; decide))
    generalize eC : hB.update TO (Obj.mapSeq fun x_1 => x_1.setIfInBounds 0 x) = hC
    have kC : ∀ c, c ≠ TO → hC.get? c = hB.get? c := fun c hc => by rw [← eC]; exact Heap.get?_update_ne _ _ _ _ hc
    refine wpAny_bind (wpAny_letGo (wpAny_pure ?_))
    have zC := (kC z (Ne.symm ap.TOz)).trans zB
    have h2C : hC.IsListIter i2 l2 k2 := h2.at fun o e => ((kC i2 (Ne.symm ap.TOi2)).trans ((kB i2 (Ne.symm ap.i12)).trans (kA i2 ap.i2z))).trans e
    have t2C : hC.IsList l2 ys := by obtain ⟨o, e, r⟩ := t2; exact ⟨o, ((kC l2 ap.l2TO).trans ((kB l2 ap.l2i1).trans (kA l2 ap.l2z))).trans e, r⟩
    show wpAny _ _ (forIn [(Value.ref i2, 1)] _ _) _ _ _
    rw [List.forIn_cons]
    refine wpAny_bind ?_
    refine wpAny_bind (wpAny_onRaise ?_)
    show wpAny _ _ (Builtin.SmallTypes.nextOf (Value.ref i2) >>= fun v => pure (some v)) _ _ _
    refine wpAny_bind (wpAny_nextOf_list_end (s := { s with heap := hC }) hh h2C t2C e2 fun hD ex kD hx => ?_)
    have zD := kD z _ (Ne.symm ap.i2z) zC
    refine wpAny_setField (s := { s with heap := hD }) zD rfl (by show 0 < 5; decide) ?_
    generalize eF : hD.update z (Obj.mapFields fun x_1 => x_1.setIfInBounds 0 Value.none) = hF
    have kF : ∀ c, c ≠ z → hF.get? c = hD.get? c := fun c hc => by rw [← eF]; exact Heap.get?_update_ne _ _ _ _ hc
    refine q hF ex (fun c o c1 c2 c3 c4 e => ?_) ?_
    · rw [kF c c1]
      refine kD c o c4 ?_
      rw [kC c c2, kB c c3, kA c c1]
      exact e
    · obtain ⟨o, ho, ec⟩ := hx
      by_cases hez : ex = z
      · subst hez
        rw [zD] at ho
        cases ho
        injection ec with h
        exact absurd h (by decide)
      · exact ⟨o, (kF ex hez).trans ho, ec⟩
theorem pyNext_zipM_item {z TI TO i1 i2 l1 l2 : Addr} {k1 k2 : Nat} {xs ys : Array Value} {x y a b : Value} {Q : Option Value → Shared → Prop} (ap : ZipApart z TI TO i1 i2 l1 l2) (hz : IsZip s.heap z TI TO .none) (hI : IsPair s.heap TI (.ref i1) (.ref i2)) (hO : IsPair s.heap TO a b) (h1 : s.heap.IsTupleIter i1 l1 k1) (h2 : s.heap.IsListIter i2 l2 k2) (t1 : s.heap.IsTuple l1 xs) (t2 : s.heap.IsList l2 ys) (e1 : xs[k1]? = some x) (e2 : ys[k2]? = some y)
    (q : ∀ h', IsZip h' z TI TO (rawInt s.heap.objs.size) → IsPair h' TO x y → h'.IsTupleIter i1 l1 (k1 + 1) → h'.IsListIter i2 l2 (k2 + 1) → IsPair h' s.heap.objs.size x y → h'.objs.size = s.heap.objs.size + 1 → (∀ c o, c ≠ z → c ≠ TO → c ≠ i1 → c ≠ i2 → s.heap.get? c = some o → h'.get? c = some o) → Q (some (.ref s.heap.objs.size)) { s with heap := h' }) :
    wpAny (model prog w) A (pyNext (.ref z)) Q E s := by
  have tZ : s.TypeIs (.ref z) "zip" := ⟨_, hz, rfl⟩
  unfold pyNext
  refine wpAny_bind (wpAny_attempt (wpAny_callSpecial?_slot (name := Str.ofString "__next__") tZ F.slot_zip_next (wpAny_call_entry F.slot_zip_next tZ F.entry_zip_next ?_ (F.args_zip_next_1 _))))
  exact zipM_next_item ap hz hI hO h1 h2 t1 t2 e1 e2 fun h' p1 p2 p3 p4 p5 p6 p7 => wpAny_pure (q h' p1 p2 p3 p4 p5 p6 p7)
theorem pyNext_zipM_end {z TI TO i1 i2 l1 l2 : Addr} {k1 k2 : Nat} {xs ys : Array Value} {a b : Value} {Q : Option Value → Shared → Prop} (hh : A.handled = none) (ap : ZipApart z TI TO i1 i2 l1 l2) (hz : IsZip s.heap z TI TO .none) (hI : IsPair s.heap TI (.ref i1) (.ref i2)) (hO : IsPair s.heap TO a b) (h1 : s.heap.IsTupleIter i1 l1 k1) (h2 : s.heap.IsListIter i2 l2 k2) (t1 : s.heap.IsTuple l1 xs) (t2 : s.heap.IsList l2 ys) (e : xs[k1]? = none ∨ ys[k2]? = none)
    (q : ∀ (h' : Heap), (∀ c o, c ≠ z → c ≠ TO → c ≠ i1 → c ≠ i2 → s.heap.get? c = some o → h'.get? c = some o) → Q none { s with heap := h' }) :
    wpAny (model prog w) A (pyNext (.ref z)) Q E s := by
  have tZ : s.TypeIs (.ref z) "zip" := ⟨_, hz, rfl⟩
  unfold pyNext
  refine wpAny_bind (wpAny_attempt (wpAny_callSpecial?_slot (name := Str.ofString "__next__") tZ F.slot_zip_next (wpAny_call_entry F.slot_zip_next tZ F.entry_zip_next ?_ (F.args_zip_next_1 _))))
  refine zipM_next_end hh ap hz hI hO h1 h2 t1 t2 e fun h' ex kb hx => ?_
  obtain ⟨o, ho, ec⟩ := hx
  exact wpAny_bind (wpAny_isInstance (T := "StopIteration") (b := true) ⟨o, ho, ec⟩ isSubtype_stop (wpAny_pure (q _ kb)))
end
end PySem
namespace L2
open PySem PySem.Spec PyProof.Rows
/-- the tuple at a and the list at b, in new pairs -/
def ItzM (K : PySem.W.Frag) (a b : Addr) : It :=
  ⟨fun i H => ∃ (xs ys : List V) (x y : V), SqT K H a xs ∧ SqL K H b ys ∧ xs[i]? = some x ∧ ys[i]? = some y,
   fun i H v H' => ∃ T x y, v = .ref T ∧ H T = none ∧ H' = upd H T (.tup [x, y]) ∧ (∀ xs, SqT K H a xs → xs[i]? = some x) ∧ ∀ ys, SqL K H b ys → ys[i]? = some y,
   fun i H => ∃ xs ys : List V, SqT K H a xs ∧ SqL K H b ys ∧ (xs.length ≤ i ∨ ys.length ≤ i)⟩
theorem turn_zipM {P : Program} {w : World} {K : PySem.W.Frag} {elts : List Expr} {kk : Nat} {tpos : Pos} {a b z TI TO i1 i2 : Addr} (ap : ZipApart z TI TO i1 i2 a b) :
    Turn P w K (.Tuple elts kk tpos) (ItzM K a b) [z, TI, TO, i1, i2] z (fun i h => IsZip h z TI TO .none ∧ IsPair h TI (.ref i1) (.ref i2) ∧ (∃ x y, IsPair h TO x y) ∧ h.IsTupleIter i1 a i ∧ h.IsListIter i2 b i) where
  mem := by simp
  obj := fun i h st c hc => by
    obtain ⟨hz, hI, ⟨x, y, hO⟩, ⟨o1, e1, _, d1⟩, ⟨o2, e2, _, d2⟩⟩ := st
    rcases (show c = z ∨ c = TI ∨ c = TO ∨ c = i1 ∨ c = i2 by simpa using hc) with rfl | rfl | rfl | rfl | rfl
    · exact ⟨_, hz, fun v q => nomatch q⟩
    · exact ⟨_, hI, fun v q => nomatch q⟩
    · exact ⟨_, hO, fun v q => nomatch q⟩
    · exact ⟨o1, e1, fun v q => by rw [d1] at q; cases q⟩
    · exact ⟨o2, e2, fun v q => by rw [d2] at q; cases q⟩
  keep := fun i h h' st k => by
    obtain ⟨hz, hI, ⟨x, y, hO⟩, h1, h2⟩ := st
    exact ⟨k z (by simp) _ hz, k TI (by simp) _ hI, ⟨x, y, k TO (by simp) _ hO⟩, h1.at fun o e => k i1 (by simp) o e, h2.at fun o e => k i2 (by simp) o e⟩
  item := by
    intro X hP hw hK hc i pins s σ H E I hf st hg
    subst hP hw hK
    obtain ⟨hz, hI, ⟨x0, y0, hO⟩, h1, h2⟩ := st
    obtain ⟨xs, ys, x, y, hq, hr, hx, hy⟩ := hg
    obtain ⟨its, rv, p, _⟩ := I.tuple hq
    obtain ⟨jts, rw2, p2, _⟩ := I.list hr
    obtain ⟨u, hu, ru⟩ := rv.get hx
    obtain ⟨v, hv, rv2⟩ := rw2.get hy
    have pT : s.heap.IsTuple a its.toArray := p
    have pL : s.heap.IsList b jts.toArray := p2.isList
    have hl : ∀ c ∈ [z, TI, TO, i1, i2], c < s.heap.objs.size := fun c hc => by
      rcases (show c = z ∨ c = TI ∨ c = TO ∨ c = i1 ∨ c = i2 by simpa using hc) with rfl | rfl | rfl | rfl | rfl
      · exact Heap.lt_size hz
      · exact Heap.lt_size hI
      · exact Heap.lt_size hO
      · obtain ⟨_, q, _⟩ := h1; exact Heap.lt_size q
      · obtain ⟨_, q, _⟩ := h2; exact Heap.lt_size q
    have hzl := hl z (by simp)
    refine PySem.pyNext_zipM_item ap hz hI hO h1 h2 pT pL (x := u) (y := v) (by simpa using hu) (by simpa using hv) fun h' z' o' q1 q2 hT hsz hk => ?_
    refine ⟨_, rfl, wpAny_letOwnedTupleGo_zip (s := { s with heap := h' }) z' fun h'' he' sb => ?_⟩
    have hT2 : h''.get? s.heap.objs.size = some { cls := .type "tuple", data := .seq #[u, v] } := (sb.2 _ (Nat.ne_of_gt hzl)).trans hT
    have new : ObjOk X.prog X.w (upd H s.heap.objs.size (.tup [x, y])) h'' s.heap.objs.size (.tup [x, y]) :=
      ⟨by show 2 ≤ sizeLine; decide, [u, v], .cons ru (.cons rv2 .nil), ⟨_, hT2, rfl, _, rfl⟩⟩
    have I1 : Inv X pins σ (upd H s.heap.objs.size (.tup [x, y])) { s with heap := h'' } :=
      I.turnedNew (t' := s.toks) (ch := [z, TI, TO, i1, i2]) (fun c ob hb q => (sb.2 c (fun e => hb (by simp [e]))).trans (hk c ob (fun e => hb (by simp [e])) (fun e => hb (by simp [e])) (fun e => hb (by simp [e])) (fun e => hb (by simp [e])) q)) hf (Nat.le_refl _) new
    refine ⟨.ref s.heap.objs.size, _, I1, rfl, ⟨_, x, y, rfl, I.hok.fresh (Nat.le_refl _), rfl, fun zs hz => ?_, fun zs hz => ?_⟩, ⟨he', ?_, ⟨u, v, (sb.2 TO ap.TOz).trans o'⟩, q1.at fun o q => (sb.2 i1 ap.i1z).trans q, q2.at fun o q => (sb.2 i2 ap.i2z).trans q⟩, fun c hc => ?_⟩
    · rw [I.tuple_inj hz hq]; exact hx
    · rw [I.list_inj hz hr]; exact hy
    · exact (sb.2 TI ap.TIz).trans (hk TI _ ap.TIz ap.TITO ap.TIi1 ap.TIi2 hI)
    · rw [upd_ne (Nat.ne_of_lt (hl c hc))]
      exact (hf c hc).1
  done := by
    intro X hP hw hK hc i pins s σ H E I hf st hg
    subst hP hw hK
    obtain ⟨hz, hI, ⟨x0, y0, hO⟩, h1, h2⟩ := st
    obtain ⟨xs, ys, hq, hr, hx⟩ := hg
    obtain ⟨its, rv, p, _⟩ := I.tuple hq
    obtain ⟨jts, rw2, p2, _⟩ := I.list hr
    have pT : s.heap.IsTuple a its.toArray := p
    have pL : s.heap.IsList b jts.toArray := p2.isList
    have l1 := rv.length
    have l2 := rw2.length
    refine PySem.pyNext_zipM_end (I.ok.hd hc) ap hz hI hO h1 h2 pT pL ?_ fun h' eb => ⟨rfl, ?_⟩
    · rcases hx with hx | hx
      · left; simp; omega
      · right; simp; omega
    · exact I.turnedL (t' := s.toks) (ch := [z, TI, TO, i1, i2]) (fun c ob hb q => eb c ob (fun e => hb (by simp [e])) (fun e => hb (by simp [e])) (fun e => hb (by simp [e])) (fun e => hb (by simp [e])) q) hf
  self := fun A i s Q E st h => wpAny_pyIter_zip st.1 h
theorem apart_of {n a b : Nat} (ha : a < n) (hb : b < n) : ZipApart (n + 4) (n + 2) (n + 3) n (n + 1) a b := by
  constructor <;> (intro e; have e : (_ : Nat) = (_ : Nat) := e; omega)
def iZipM (K : PySem.W.Frag) (ta : TA) : TI := fun σ H R => ta σ H fun vs H1 => ∃ a b xs ys, vs = [.ref a, .ref b] ∧ SqT K H1 a xs ∧ SqL K H1 b ys ∧ R (ItzM K a b) H1
theorem pi_zipM {X : Cx} {e e2 : Expr} {ta : TA} {p pos tpos : Pos} {elts : List Expr} {kk : Nat} (hg : Gl X "zip") (hm : X.mg "zip" = none) (ha : PA X [e, e2] ta) (hs : starEach [e, e2] X.env = (false, eval e X.env) :: starEach [e2] X.env := by rfl) (hpl : (backTo pos (starEach [e2] X.env)).any (·.1) = false := by rfl) :
    PI X (.Tuple elts kk tpos) (.Call (.Name "zip" p) [e, e2] [] pos) (iZipM X.K ta) := by
  refine ⟨fun pins s σ H R I h => ?_⟩
  refine Call_ (ld_blt I hg hm PyProof.Rows.boot_zip (PyProof.Rows.callWith_type1 (thn (ha.run pos pins s σ H _ I h) fun us s1 ⟨vs, H1, I1, r1, q1⟩ => ?_) hs hpl))
  obtain ⟨a, b, xs, ys, ex, hq, hr, q⟩ := q1
  subst ex
  cases r1 with
  | cons r rr =>
    cases rr with
    | cons r2 rr2 =>
      cases rr2
      cases r
      cases r2
      obtain ⟨its, rv, pT, _⟩ := I1.tuple hq
      obtain ⟨jts, rw2, pL, _⟩ := I1.list hr
      refine PySem.callZipM pT pL.isList fun h' hz hI hO h1 h2 hk => wpAny_pyIter_zip hz ?_
      have I2 : Inv X pins σ H1 { s1 with heap := h' } := I1.kept (t' := s1.toks) hk
      have la : a < s1.heap.objs.size := pT.lt
      have lb : b < s1.heap.objs.size := by obtain ⟨o, n, e, _⟩ := pL; exact Heap.lt_size e
      have ap : ZipApart (s1.heap.objs.size + 4) (s1.heap.objs.size + 2) (s1.heap.objs.size + 3) s1.heap.objs.size (s1.heap.objs.size + 1) a b := by
        exact apart_of la lb
      refine ⟨s1.heap.objs.size + 4, [s1.heap.objs.size + 4, s1.heap.objs.size + 2, s1.heap.objs.size + 3, s1.heap.objs.size, s1.heap.objs.size + 1], _, _, H1, rfl, I2, turn_zipM ap, ⟨hz, hI, ⟨_, _, hO⟩, h1, h2⟩, fun c hc => ?_, q⟩
      have hle : s1.heap.objs.size ≤ c := by
        rcases (show c = s1.heap.objs.size + 4 ∨ c = s1.heap.objs.size + 2 ∨ c = s1.heap.objs.size + 3 ∨ c = s1.heap.objs.size ∨ c = s1.heap.objs.size + 1 by simpa using hc) with rfl | rfl | rfl | rfl | rfl <;> omega
      exact I1.fpOk hle (I1.hok.fresh hle)
end L2
namespace Mir
open PySem PySem.Spec PyProof.Rows L2
section
variable {X : Cx} {G : Wd} {E : EK} (K : PySem.W.Frag)
def gZipA : List PV → Store → Res (List PV)
  | [.tup xs, .lst ys], S => .ok (zipP xs ys) S
  | [.tup xs, .cl ys], S => .ok (zipP xs ys) S
  | xs, S => gZip xs S
theorem itok_zipM {w1 : Wd} {a b : Addr} {xs ys : List PV} {vs us : List V} (ha : SqT K w1.hc a vs) (r : RVs K w1.L w1.hc xs vs) (hb : SqL K w1.hc b us) (r2 : RVs K w1.L w1.hc ys us) : ItOk K w1 (ItzM K a b) (zipP xs ys) := fun i w' s k => by
  have h1 : SqT K w'.H a vs := hc_sqT (sqT_mono s.ext ha)
  have h2 : SqL K w'.H b us := hc_sqL (sqL_mono s.ext hb)
  refine ⟨fun x e => ?_, fun e => ⟨vs, us, h1, h2, by rw [r.len, r2.len]; rw [zipP_len] at e; omega⟩⟩
  obtain ⟨y, z, e1, e2, rfl⟩ := zipP_get e
  obtain ⟨v, g1, g2⟩ := (r.mono s.pre s.ext).get e1
  obtain ⟨u, g3, g4⟩ := (r2.mono s.pre s.ext).get e2
  refine ⟨⟨vs, us, v, u, h1, h2, g1, g3⟩, fun q H' hy => ?_⟩
  obtain ⟨T, p1, p2, rfl, hT, rfl, q1, q2⟩ := hy
  have e3 := q1 vs h1
  have e4 := q2 us h2
  rw [g1] at e3
  rw [g3] at e4
  cases e3
  cases e4
  exact ⟨w'.put T (.tup [v, u]), rfl, rfl, put_step k hT, put_ok k hT, pair_put k hT g2 g4⟩
abbrev iZipB (K : PySem.W.Frag) (ta : TA) : TI := fun σ H R => iZipM K ta σ H R ∨ RZ.iZipA K ta σ H R
theorem sim_zipA {K : PySem.W.Frag} {mg ta fa} (h : ASim K mg G E ta fa) : ISim K mg G E (iZipB K ta) (mRange gZipA fa) := fun w ρ σ R I q => by
  have q' := Good.bind1 q
  by_cases hm : ∃ xs ys S, fa ρ w.S = .ok [.tup xs, .lst ys] S ∨ fa ρ w.S = .ok [.tup xs, .cl ys] S
  · obtain ⟨xs, ys, S, e | e⟩ := hm
    · refine .inl (h w ρ σ _ I ?_)
      rw [e] at q' ⊢
      intro w1 vs e2 s1 k1 r1
      obtain ⟨v, u, rfl, ⟨a, us, rfl, r2, r3⟩, b, zs, rfl, r4, r5⟩ := vs2 K r1
      have r4 : SqL K w1.hc b zs := .inl (.inl r4)
      exact ⟨a, b, us, zs, rfl, hc_sqT r2, hc_sqL r4, q' w1 _ e2 s1 k1 (itok_zipM K r2 r3 r4 r5)⟩
    · refine .inl (h w ρ σ _ I ?_)
      rw [e] at q' ⊢
      intro w1 vs e2 s1 k1 r1
      obtain ⟨v, u, rfl, ⟨a, us, rfl, r2, r3⟩, b, zs, rfl, r4, r5⟩ := vs2 K r1
      exact ⟨a, b, us, zs, rfl, hc_sqT r2, hc_sqL r4, q' w1 _ e2 s1 k1 (itok_zipM K r2 r3 r4 r5)⟩
  · refine .inr (sim_zip (K := K) (mg := mg) h w ρ σ R I ?_)
    have e : mRange gZipA fa ρ w.S = mRange gZip fa ρ w.S := by
      unfold mRange
      cases e1 : fa ρ w.S with
      | bad => rfl
      | exc c fs S => rfl
      | ok xs S =>
        show gZipA xs S = gZip xs S
        unfold gZipA
        split
        · exact absurd ⟨_, _, _, .inl e1⟩ hm
        · exact absurd ⟨_, _, _, .inr e1⟩ hm
        · rfl
    rw [← e]
    exact q
theorem fit_zipA {e e2 : Expr} {p pos tpos : Pos} {elts : List Expr} {kk : Nat} {ta fa} (hm : X.mg "zip" = none) (ha : FA X G E [e, e2] ta fa) (hK : X.K = K := by rfl) (hg : Gl X "zip" := by rfl) (hs : starEach [e, e2] X.env = (false, eval e X.env) :: starEach [e2] X.env := by rfl) (hpl : (backTo pos (starEach [e2] X.env)).any (·.1) = false := by rfl) :
    FIt X G E (.Tuple elts kk tpos) (.Call (.Name "zip" p) [e, e2] [] pos) (iZipB K ta) (mRange gZipA fa) := by
  subst hK
  exact ⟨pi_or (pi_zipM hg hm ha.pe hs hpl) (RZ.pi_zipA hg hm ha.pe hs hpl), sim_zipA ha.sim⟩
end
end Mir
set_option maxHeartbeats 4000000
/-! MirC: the call of a local name that holds a def. -/
namespace Mir
open PySem PySem.Spec PyProof.Rows L2
/-- at f stands a def with the promise sp -/
def Tb (P : Program) (w : World) (K : PySem.W.Frag) (mg : Str → Option Value) (base : Heap) (k : Nat) (f : Addr) (sp : Sp) : Prop := ∃ fd ps, FnG P w K mg base k f fd ps sp ∧ PySem.W.keepIn K (.ref f) = true ∧ Binds K fd ps []
def tCallF (T : Addr → Sp → Prop) (i : Nat) (E : EK) (t : TA) : TE := fun σ H Q => ∃ f sp, σ[i]? = some (some (.ref f)) ∧ T f sp ∧ t σ H fun vs H1 => sp vs H1 Q (E σ)
section
variable {X : Cx} {G : Wd} {E : EK}
theorem peG_callF {k i : Nat} {x : Str} {p pos : Pos} {e : Expr} {es : List Expr} {t : TA} (hg0 : X.A.guards = some []) (hr : Room k X.A) (hN : X.N[i]? = some x) (hv : Vis X.env.scope x) (hx : ∀ σ, PassesAt (L2.CX X.prog X.w) X σ (E σ)) (ha : PA X (e :: es) t)
    (hdb : (x == ("__debug__" : Str)) = false) (hcd : (x == ("__classdict__" : Str)) = false) (he : starEach (e :: es) X.env = (false, eval e X.env) :: starEach es X.env) (hpl : (backTo pos (starEach es X.env)).any (·.1) = false) :
    PE X (.Call (.Name x p) (e :: es) [] pos) (tCallF (Tb X.prog X.w X.K X.mg X.base k) i E t) := by
  refine ⟨fun pins s σ H Q I h => ?_⟩
  obtain ⟨f, sp, hs, ⟨fd, ps, F, hk, hb⟩, ht⟩ := h
  refine wpAny_Call_Name_kw (thn ((pe_var (pos := p) (i := i) hN hv hdb hcd).run pins s σ H (fun v H1 => v = .ref f ∧ H1 = H) I ⟨.ref f, hs, rfl, rfl⟩) fun u s1 ⟨v, H1, I1, r1, q1⟩ => ?_)
  obtain ⟨rfl, rfl⟩ := q1
  cases r1
  refine PySem.W.callWith_K (h₀ := X.base) I.ok.mod.kin hk (thn (ha.run pos pins s1 σ _ _ I1 ht) fun us s2 ⟨vs, H2, I2, r, q⟩ => ⟨I2.kIn, ?_⟩) he hpl
  refine callG F hg0 hr (hx σ) I2 ?_ r q
  have z := hb s2 us I2.kIn (by rw [List.append_nil, ← r.length]; exact F.arity _ _ _ _ q)
  rw [List.append_nil] at z
  exact z
def mCallV (i n : Nat) (tbl : List (Str × (List PV → Store → Res PV))) (fa : Rho → Store → Res (List PV)) : Rho → Store → Res PV := fun ρ S => match ρ[i]? with
  | some (.val (.fn x)) => (match tbl.lookup x with
    | some m => (fa ρ S).bind fun xs S1 => if xs.length = n then m xs S1 else .bad
    | none => .bad)
  | _ => .bad
theorem lookup_memF {α : Type} {c : Str} {b : α} : ∀ {l : List (Str × α)}, l.lookup c = some b → (c, b) ∈ l
  | [], h => by simp at h
  | (d, x) :: l, h => by
    rw [List.lookup_cons] at h
    by_cases e : c == d
    · rw [e] at h
      have : c = d := beq_iff_eq.mp e
      subst this
      simp at h
      subst h
      exact List.mem_cons_self
    · rw [Bool.not_eq_true] at e
      rw [e] at h
      exact List.mem_cons_of_mem _ (lookup_memF h)
theorem ke_callV {P : Program} {w : World} {K : PySem.W.Frag} {mg : Str → Option Value} {base : Heap} {k i n : Nat} {x : Str} {p pos : Pos} {e : Expr} {es : List Expr} {t fa} {tbl : List (Str × (List PV → Store → Res PV))} (ht : ∀ q ∈ tbl, Tb P w K mg base k (He.ga K q.1) (spM K mg n q.2)) (hg0 : X.A.guards = some []) (hr : Room k X.A) (hN : X.N[i]? = some x) (hv : Vis X.env.scope x)
    (hx : ∀ σ, PassesAt (L2.CX P w) X σ (E σ)) (ha : FA X G E (e :: es) t fa) (c : CtxIs X P w K mg base := by exact ⟨rfl, rfl, rfl, rfl, rfl⟩) (hdb : (x == ("__debug__" : Str)) = false := by decide) (hcd : (x == ("__classdict__" : Str)) = false := by decide) (he : starEach (e :: es) X.env = (false, eval e X.env) :: starEach es X.env := by rfl)
    (hpl : (backTo pos (starEach es X.env)).any (·.1) = false := by rfl) : FE X G E (.Call (.Name x p) (e :: es) [] pos) (tCallF (Tb P w K mg base k) i E t) (mCallV i n tbl fa) := by
  obtain ⟨rfl, rfl, rfl, rfl, rfl⟩ := c
  refine ⟨peG_callF hg0 hr hN hv hx ha.pe hdb hcd he hpl, fun w ρ σ Q I q => ?_⟩
  unfold mCallV at q
  split at q
  · rename_i y hi
    split at q
    · rename_i m hm
      obtain ⟨v, e1, r1⟩ := I.val i _ hi
      have r1 : v = .ref (He.ga X.K y) := r1
      subst r1
      refine ⟨_, _, e1, ht _ (lookup_memF hm), ?_⟩
      refine ha.sim w ρ σ _ I (Good.imp (Good.bind1 q) (fun xs S1 h1 => ?_) fun _ _ _ h => h)
      intro w1 vs e2 s1 k1 r2
      subst e2
      obtain ⟨cl, h1⟩ := good_if h1
      exact ⟨xs, w1, rfl, k1, r2, cl, Good.imp h1 (fun x S h => post_call I.ok k1 s1 h) fun _ _ _ h => h.step s1 I.ok k1⟩
    · exact q.elim
  · exact q.elim
theorem tbV {P : Program} {w : World} {K : PySem.W.Frag} {mg : Str → Option Value} {base : Heap} {j k : Nat} {f : Addr} {fd : FuncData} {ps : List Str} {sp : Sp} {x : Str} (e : f = He.ga K x) (F : FnG P w K mg base j f fd ps sp) (h : j ≤ k) (hk : PySem.W.keepIn K (.ref f) = true) (hb : Binds K fd ps []) : Tb P w K mg base k (He.ga K x) sp := by
  subst e
  exact ⟨fd, ps, F.up h, hk, hb⟩
end
end Mir
namespace Mir
open PySem L2
theorem passAll {CX : CXT} {X : Cx} {E : XK} (h : Passes CX X E) : ∀ σ, PassesAt CX X σ ((fun _ => E) σ) := fun σ pins H s e s' I c => h pins σ H s e s' I c
end Mir
set_option maxHeartbeats 4000000
/-! MirR: instances of own classes: construction. -/
namespace Mir
open PySem PySem.Spec PyProof.Rows L2
section
variable {X : Cx} {k : Nat} {f C : Addr} {fd : FuncData} {ps : List Str} {sp : Sp} {x : Str} {p pos : Pos} {e : Expr} {es : List Expr} {t : TA}
theorem run_makeG {dvs : List V} {ds : List Value} {E : XK} {pins : List (Addr × Obj)} {σ : L2.St} {H : Hp} {s : Shared} {Q : VK} {us : List Value} {vs : List V} (M : Mk X.K C f) (F : FnG X.prog X.w X.K X.mg X.base k f fd ps sp) (hg0 : X.A.guards = some []) (hr : Room (k + 1) X.A) (hb : Binds X.K fd ps ds) (hd : Vals dvs ds) (hx : PassesAt (L2.CX X.prog X.w) X σ E) (I : Inv X pins σ H s) (r : Vals vs us)
    (h : ∀ x dx : Addr, H x = none → H dx = none → dx ≠ x → sp (.ref x :: (vs ++ dvs)) (upd (upd H dx (.own x)) x (.ins C dx [])) (fun v H2 => v = .non ∧ Q (.ref x) H2) E) :
    wpAny (model X.prog X.w) X.A (call (.ref C) us) (EP X pins σ Q) X.xe s := by
  have hq := h (s.heap.objs.size + 1) s.heap.objs.size (I.hok.fresh (Nat.le_succ _)) (I.hok.fresh (Nat.le_refl _)) (Nat.ne_of_lt (Nat.lt_succ_self _))
  have I2 := Inv.made (C := C) I
  have r2 : Vals (.ref (s.heap.objs.size + 1) :: (vs ++ dvs)) (.ref (s.heap.objs.size + 1) :: (us ++ ds)) := Paired.cons rfl (Vals.append r hd)
  have hl : ((.ref (s.heap.objs.size + 1) : Value) :: (us ++ ds)).length = ps.length := by
    rw [← r2.length]
    exact F.arity _ _ _ _ hq
  refine wpAny_call (make_map I.kIn M.makes M.init (beq_iff_eq.mp M.fn) (codeAny_mono (F.go (X.A.under (Code.builtin "type.__call__" { pos := Value.ref C :: us })) X.stack _ _ { pos := Value.ref (s.heap.objs.size + 1) :: us } (Value.ref (s.heap.objs.size + 1) :: (us ++ ds)) _ _ E hg0 (Room.make hr C us []) (Env0.make I2.env0 C us []) (hb _ (Value.ref (s.heap.objs.size + 1) :: us) I2.kIn hl) r2 hq) fun r s' hq' => ?_))
  match r, hq' with
  | .error e, hq' => exact hx pins _ _ e s' I2 hq'
  | .ok (.ret u), hq' =>
    obtain ⟨v, H', I3, rv, rfl, q3⟩ := Inv.after I2 hq'
    exact ⟨rv, .ref (s.heap.objs.size + 1), H', I3, rfl, q3⟩
def tMakeG (C : Addr) (sp : Sp) (E : EK) (t : TA) : TE := fun σ H Q => t σ H fun vs H1 => ∀ x dx : Addr, H1 x = none → H1 dx = none → dx ≠ x → sp (.ref x :: vs) (upd (upd H1 dx (.own x)) x (.ins C dx [])) (fun v H2 => v = .non ∧ Q (.ref x) H2) (E σ)
theorem peG_make {E : EK} (M : Mk X.K C f) (F : FnG X.prog X.w X.K X.mg X.base k f fd ps sp) (hg0 : X.A.guards = some []) (hr : Room (k + 1) X.A) (hg : Gl X x) (hm : X.mg x = some (.ref C)) (hb : Binds X.K fd ps []) (hx : ∀ σ, PassesAt (L2.CX X.prog X.w) X σ (E σ)) (ha : PA X (e :: es) t)
    (hdb : (x == ("__debug__" : Str)) = false) (he : starEach (e :: es) X.env = (false, eval e X.env) :: starEach es X.env) (hpl : (backTo pos (starEach es X.env)).any (·.1) = false) : PE X (.Call (.Name x p) (e :: es) [] pos) (tMakeG C sp E t) :=
  ⟨fun pins s σ H Q I h => wpAny_Call_Name_kw (ld_glob I hg hm (PySem.W.callWith_K (h₀ := X.base) I.ok.mod.kin M.kp (thn (ha.run pos pins s σ H _ I h) fun us s1 ⟨vs, H1, I1, r, q⟩ => ⟨I1.kIn, run_makeG (dvs := []) M F hg0 hr hb .nil (hx σ) I1 r (by
    intro x dx h1 h2 h3
    rw [List.append_nil]
    exact q x dx h1 h2 h3)⟩) he hpl) hdb)⟩
end
/-! ### __init__: guards, then fields -/
/-- slots at the start: self is not read but by its fields' rows -/
def rhoI (nN : Nat) (xs : List PV) : Rho := Slot.none :: (xs.map Slot.val ++ List.replicate (nN - 1 - xs.length) Slot.none)
theorem rhoI_own {nN : Nat} {xs : List PV} {j : Nat} {o : SO} : (rhoI nN xs)[j]? ≠ some (.own o) := fun h => by
  have := List.mem_of_getElem? h
  unfold rhoI at this
  rw [List.mem_cons, List.mem_append, List.mem_map, List.mem_replicate] at this
  rcases this with e | ⟨_, _, e⟩ | ⟨_, e⟩ <;> cases e
theorem rhoI_pin {nN : Nat} {xs : List PV} {j : Nat} {c : Str} {fs : List (Str × PV)} : (rhoI nN xs)[j]? ≠ some (.pin c fs) := fun h => by
  have := List.mem_of_getElem? h
  unfold rhoI at this
  rw [List.mem_cons, List.mem_append, List.mem_map, List.mem_replicate] at this
  rcases this with e | ⟨_, _, e⟩ | ⟨_, e⟩ <;> cases e
theorem FI.beginI {K : PySem.W.Frag} {G w : Wd} {xs : List PV} {vs : List V} {N : List Str} {p : Addr} (kg : WOk K G) (k : WOk K w) (s : WStep G w) (hN : 0 < N.length) (r : RVs K w.L w.hc xs vs) : FI K G w (rhoI N.length xs) (L2.start N (.ref p :: vs)) := by
  have e : vs.length = xs.length := r.len
  refine ⟨kg, k, s, ?_, fun i x h => ?_, fun i o h => absurd h rhoI_own, fun i j oi oj _ h => absurd h rhoI_own, fun i c fs h => absurd h rhoI_pin⟩
  · unfold rhoI L2.start
    simp [e]
    omega
  · cases i with
    | zero => cases h
    | succ i =>
      have h : (xs.map Slot.val ++ List.replicate (N.length - 1 - xs.length) Slot.none)[i]? = some (.val x) := h
      by_cases hi : i < xs.length
      · rw [List.getElem?_append_left (by simpa using hi), List.getElem?_map] at h
        rw [List.getElem?_eq_getElem hi] at h
        cases h
        obtain ⟨v, e1, e2⟩ := r.get (List.getElem?_eq_getElem hi)
        refine ⟨v, ?_, e2⟩
        unfold L2.start
        rw [List.getElem?_append_left (by simp [e]; omega)]
        show ((List.map some vs))[i]? = _
        rw [List.getElem?_map, e1]
        rfl
      · rw [List.getElem?_append_right (by simpa using hi)] at h
        have := List.mem_of_getElem? h
        rw [List.mem_replicate] at this
        cases this.2
/-- a statement that stores nothing -/
def StSim (K : PySem.W.Frag) (mg : Str → Option Value) (G : Wd) (E : EK) (ts : TS) (f : Rho → Store → Res Unit) : Prop := ∀ w ρ σ D, FI K G w ρ σ → Good (f ρ w.S) (fun _ S' => ∀ w', w'.S = S' → WStep w w' → WOk K w' → D.nx σ w'.H) (ExP K mg (E σ) G) → ts D σ w.H
def mGuard (t : Rho → Store → Res Bool) (r : Rho → Store → Res Out) : Rho → Store → Res Unit := fun ρ S => (t ρ S).bind fun c S1 => if c then (r ρ S1).bind fun _ _ => .bad else .ok () S1
section
variable {K : PySem.W.Frag} {mg : Str → Option Value} {G : Wd} {E : EK}
theorem st_guard {tt ft tr fr} (ht : TSim K mg G E tt ft) (hr : SSim K mg G E tr fr) : StSim K mg G E (tIfS tt tr tNext) (mGuard ft fr) := fun w ρ σ D I q => by
  refine ht w ρ σ _ I (Good.imp (Good.bind1 q) (fun c S1 h1 => ?_) fun _ _ _ h => h.step I.stp I.gok I.ok)
  intro w1 e1 s1 k1
  subst e1
  cases c with
  | false => exact h1 w1 rfl s1 k1
  | true =>
    have h1 : Good ((fr ρ w1.S).bind fun _ _ => (.bad : Res Unit)) _ _ := h1
    refine hr w1 ρ σ D (I.step s1 k1) ?_
    cases e : fr ρ w1.S with
    | ok o S2 => rw [e] at h1; exact h1.elim
    | exc c fs S2 => rw [e] at h1; exact h1
    | bad => rw [e] at h1; exact h1.elim
theorem putF_new {f : Str} {y : V} : ∀ {fs : List (Str × V)}, f ∉ fs.map (·.1) → putF f y fs = fs ++ [(f, y)]
  | [], _ => rfl
  | a :: r, h => by
    simp only [List.map_cons, List.mem_cons, not_or] at h
    unfold putF
    rw [if_neg (fun e => h.1 e.symm), putF_new h.2]
    rfl
def mFields : List (Rho → Store → Res PV) → Rho → Store → Res (List PV)
  | [], _, S => .ok [] S
  | f :: fs, ρ, S => (f ρ S).bind fun y S1 => (mFields fs ρ S1).bind fun ys S2 => .ok (y :: ys) S2
/-- self.f = e, one behind the other -/
inductive FlS (K : PySem.W.Frag) (mg : Str → Option Value) (G : Wd) (E : EK) : List Str → TS → List (Rho → Store → Res PV) → Prop
  | nil : FlS K mg G E [] tNext []
  | cons {f : Str} {te fe ns t fs} : ESim K mg G E te fe → FlS K mg G E ns t fs → FlS K mg G E (f :: ns) (tSeq (sFld K (tVar 0) te f) t) (fe :: fs)
theorem fields_sim {c : Str} {p dx : Addr} {ρ : Rho} {σ : L2.St} {D : Ends} (hG : G.H p = none) (hσ : σ[0]? = some (some (.ref p))) (hown : ∀ (j : Nat) (o : SO), ρ[j]? ≠ some (.own o)) (hC : Cls K (He.ga K c)) : ∀ {ns : List Str} {t : TS} {fs : List (Rho → Store → Res PV)}, FlS K mg G E ns t fs → ∀ (w : Wd) (dn : List Str) (xs : List PV) (vs : List V), FI K G w ρ σ → w.H p = some (.ins (He.ga K c) dx (dn.zip vs)) → RVs K w.L w.hc xs vs → xs.length = dn.length → p ∈ w.O → p ∉ w.L → (∀ f ∈ ns, NoAttr K (He.ga K c) f) → (dn ++ ns).Nodup → dn.length + ns.length < 1000 →
    Good (mFields fs ρ w.S) (fun ys S' => ∀ w', w'.S = S' → WStep G w' → WOk K w' → p ∈ w'.O → p ∉ w'.L → SOk K w'.L w'.hc (w'.H p) (.ins c (dn ++ ns) (xs ++ ys)) → D.nx σ w'.H) (ExP K mg (E σ) G) → t D σ w.H := by
  intro ns t fs hf
  induction hf with
  | nil =>
    intro w dn xs vs I hp r hl hO hL _ _ _ q
    refine q w rfl I.stp I.ok hO hL ?_
    rw [List.append_nil, List.append_nil]
    exact ⟨dx, vs, hp, hl, r⟩
  | @cons f te fe ns t fs he _ ih =>
    intro w dn xs vs I hp r hl hO hL hn hd hz q
    refine he w ρ σ _ I (Good.imp (Good.bind1 q) (fun y S1 h1 => ?_) fun _ _ _ h => h.step I.stp I.gok I.ok)
    intro w1 v e1 s1 k1 r1
    subst e1
    have hp1 : w1.H p = some (.ins (He.ga K c) dx (dn.zip vs)) := s1.keep p _ hp hL
    have hO1 := s1.omono p hO
    have hL1 : p ∉ w1.L := fun z => by
      rcases s1.lset p z with y | y
      · exact hL y
      · rw [hp] at y; cases y
    have rl : vs.length = dn.length := r.len.trans hl
    have rm := r.mono s1.pre (s1.ext I.ok.sub)
    refine ⟨.ref p, hσ, p, He.ga K c, dx, dn.zip vs, rfl, hp1, hC, hn f List.mem_cons_self, by rw [List.length_zip]; rw [List.length_cons] at hz; omega, ?_⟩
    have fresh : f ∉ (dn.zip vs).map (·.1) := by
      rw [List.map_fst_zip (by omega)]
      intro hm
      rw [List.nodup_append] at hd
      exact hd.2.2 f hm f List.mem_cons_self rfl
    rw [putF_new fresh]
    have ez : dn.zip vs ++ [(f, v)] = (dn ++ [f]).zip (vs ++ [v]) := by
      rw [List.zip_append rl.symm]
      rfl
    rw [ez]
    have I1 := I.step s1 k1
    have k2 := wr_ok (ho := .ins (He.ga K c) dx ((dn ++ [f]).zip (vs ++ [v]))) k1 hO1 hL1
    have I2 : FI K G (w1.wr p (.ins (He.ga K c) dx ((dn ++ [f]).zip (vs ++ [v])))) ρ σ := by
      refine ⟨I1.gok, k2, wr_step I1.stp hG, I1.len, fun j x e => ?_, fun j o e => absurd e (hown j o), fun i j oi oj _ e => absurd e (hown i oi), fun j cc fs e => ?_⟩
      · rw [wr_hc hO1]; exact I1.val j x e
      · rw [wr_hc hO1]; exact I1.pin j cc fs e
    refine ih (w1.wr p (.ins (He.ga K c) dx ((dn ++ [f]).zip (vs ++ [v])))) (dn ++ [f]) (xs ++ [y]) (vs ++ [v]) I2 (by show upd w1.H p _ p = _; rw [upd_same]) (by rw [wr_hc hO1]; exact RVs.append rm (RVs.one r1)) (by rw [List.length_append, List.length_append, hl]; rfl) hO1 hL1 (fun g hg => hn g (List.mem_cons_of_mem _ hg)) (by rw [List.append_assoc]; exact hd) (by rw [List.length_append, List.length_cons, List.length_nil]; rw [List.length_cons] at hz; omega) (Good.imp (Good.bind1 h1) (fun ys S2 h2 => ?_) fun _ _ _ h => h)
    intro w' e' s' k' o' l' sk
    rw [List.append_assoc, List.append_assoc] at sk
    exact h2 w' e' s' k' o' l' sk
def mBody : List (Rho → Store → Res Unit) → List (Rho → Store → Res PV) → Rho → Store → Res (List PV)
  | [], fs, ρ, S => mFields fs ρ S
  | g :: gs, fs, ρ, S => (g ρ S).bind fun _ S1 => mBody gs fs ρ S1
inductive BdS (K : PySem.W.Frag) (mg : Str → Option Value) (G : Wd) (E : EK) (ns : List Str) : TS → List (Rho → Store → Res Unit) → List (Rho → Store → Res PV) → Prop
  | fl {t fs} : FlS K mg G E ns t fs → BdS K mg G E ns t [] fs
  | gd {tg g t gs fs} : StSim K mg G E tg g → BdS K mg G E ns t gs fs → BdS K mg G E ns (tSeq tg t) (g :: gs) fs
theorem body_sim {c : Str} {p dx : Addr} {ρ : Rho} {σ : L2.St} {ns : List Str} (hG : G.H p = none) (hσ : σ[0]? = some (some (.ref p))) (hown : ∀ (j : Nat) (o : SO), ρ[j]? ≠ some (.own o)) (hC : Cls K (He.ga K c)) (hn : ∀ f ∈ ns, NoAttr K (He.ga K c) f) (hd : ns.Nodup) (hz : ns.length < 1000) : ∀ {t : TS} {gs : List (Rho → Store → Res Unit)} {fs : List (Rho → Store → Res PV)}, BdS K mg G E ns t gs fs → ∀ (w : Wd) (D : Ends), FI K G w ρ σ → w.H p = some (.ins (He.ga K c) dx []) → p ∈ w.O → p ∉ w.L →
    Good (mBody gs fs ρ w.S) (fun ys S' => ∀ w', w'.S = S' → WStep G w' → WOk K w' → p ∈ w'.O → p ∉ w'.L → SOk K w'.L w'.hc (w'.H p) (.ins c ns ys) → D.nx σ w'.H) (ExP K mg (E σ) G) → t D σ w.H := by
  intro t gs fs hb
  induction hb with
  | fl hf =>
    intro w D I hp hO hL q
    exact fields_sim hG hσ hown hC hf w [] [] [] I hp rfl rfl hO hL hn (by simpa using hd) (by simpa using hz) q
  | @gd tg g t gs fs hg _ ih =>
    intro w D I hp hO hL q
    refine hg w ρ σ _ I (Good.imp (Good.bind1 q) (fun _ S1 h1 => ?_) fun _ _ _ h => h)
    intro w1 e1 s1 k1
    subst e1
    have hL1 : p ∉ w1.L := fun z => by
      rcases s1.lset p z with y | y
      · exact hL y
      · rw [hp] at y; cases y
    exact ih w1 D (I.step s1 k1) (s1.keep p _ hp hL) (s1.omono p hO) hL1 h1
/-- what __init__ promises -/
def spI (K : PySem.W.Frag) (mg : Str → Option Value) (c : Str) (ns : List Str) (n : Nat) (m : List PV → Store → Res (List PV)) : Sp := fun vs H Q E => ∃ (p dx : Addr) (us : List V) (xs : List PV) (G w : Wd), vs = .ref p :: us ∧ w.H = H ∧ WOk K G ∧ WOk K w ∧ WStep G w ∧ G.H p = none ∧ w.H p = some (.ins (He.ga K c) dx []) ∧ p ∈ w.O ∧ p ∉ w.L ∧ RVs K w.L w.hc xs us ∧ xs.length = n ∧
  Good (m xs w.S) (fun ys S' => ∀ w', w'.S = S' → WStep G w' → WOk K w' → p ∈ w'.O → p ∉ w'.L → SOk K w'.L w'.hc (w'.H p) (.ins c ns ys) → Q .non w'.H) (ExP K mg E G)
def mInit (nN : Nat) (gs : List (Rho → Store → Res Unit)) (fs : List (Rho → Store → Res PV)) : List PV → Store → Res (List PV) := fun xs S => mBody gs fs (rhoI nN xs) S
end
theorem ok_initG {P : Program} {w : World} {K : PySem.W.Frag} {mg : Str → Option Value} {base : Heap} {qual c : Str} {st : Stmt} {f : Addr} {fd : FuncData} {N ps : List Str} {ns : List Str} {k n : Nat} {gs : List (Rho → Store → Res Unit)} {fs : List (Rho → Store → Res PV)}
    (F : Fun K "__init__" qual st f fd) (S : FnScope N ps (defScope st)) (hps : ps.length = n + 1) (hN : 0 < N.length) (hC : Cls K (He.ga K c)) (hn : ∀ f ∈ ns, NoAttr K (He.ga K c) f) (hd : ns.Nodup) (hz : ns.length < 1000)
    (body : ∀ (cdv : Value) (A : Around) (outer : List Env) (s : Shared) (H : Hp) (E : XK), A.guards = some [] → Room k (A.deeper (envOfC qual (defScope st) s.heap.objs.size f cdv)) →
      ∃ ts, PSs (cxOf (L2.CX P w) P w K mg base N qual (defScope st) f cdv A outer s H E) (defBody st) ts ∧ ∀ G, BdS K mg G (fun _ => E) ns ts gs fs) :
    FnG P w K mg base (k + 1) f fd ps (spI K mg c ns n (mInit N.length gs fs)) := by
  refine fnG_of F S (fun vs H Q E ⟨p, dx, us, xs, G, w, e, _, _, _, _, _, _, _, _, r, hl, _⟩ => by rw [e, List.length_cons, hps, r.len, hl]) fun cdv A outer s H vs Q E hg hr h => ?_
  obtain ⟨ts, hp, hb⟩ := body cdv A outer s H E hg hr
  obtain ⟨p, dx, us, xs, G, w0, rfl, rfl, kG, k0, s0, h1, h2, h3, h4, r, hl, q⟩ := h
  refine ⟨ts, hp, ?_⟩
  have I := FI.beginI (N := N) (p := p) kG k0 s0 hN r
  refine body_sim h1 ?_ (fun j o => rhoI_own) hC hn hd hz (hb G) w0 _ I h2 h3 h4 q
  unfold L2.start
  rfl
end Mir
set_option maxHeartbeats 4000000
/-! MirR3: the call of an own class. -/
namespace Mir
open PySem PySem.Spec PyProof.Rows L2
def mMake (n : Nat) (c : Str) (ns : List Str) (m : List PV → Store → Res (List PV)) (fa : Rho → Store → Res (List PV)) : Rho → Store → Res PV := fun ρ S => (fa ρ S).bind fun xs S1 => if xs.length = n then (m xs S1).bind fun ys S2 => .ok (.ins c ns ys) S2 else .bad
theorem sim_make {K : PySem.W.Frag} {mg : Str → Option Value} {G : Wd} {E : EK} {n : Nat} {c : Str} {ns : List Str} {m : List PV → Store → Res (List PV)} {t : TA} {fa} (ha : ASim K mg G E t fa) : ESim K mg G E (tMakeG (He.ga K c) (spI K mg c ns n m) E t) (mMake n c ns m fa) := fun w ρ σ Q I q => by
  refine ha w ρ σ _ I (Good.imp (Good.bind1 q) (fun xs S1 h1 => ?_) fun _ _ _ h => h)
  intro w1 vs e1 s1 k1 r1
  subst e1
  obtain ⟨hl, h1⟩ := good_if h1
  intro x dx hx hdx hne
  have k2 := put_ok (o := .own x) k1 hdx
  have st2 := put_step (o := .own x) k1 hdx
  have hx2 : (w1.put dx (.own x)).H x = none := by
    show upd w1.H dx _ x = none
    rw [upd_ne (Ne.symm hne)]
    exact hx
  have k3 := laid_ok (o := .ins (He.ga K c) dx []) k2 hx2
  have st3 := laid_step (o := .ins (He.ga K c) dx []) k2 hx2
  have s13 := st2.tr st3 k1 k2
  have hxL : x ∉ w1.L := k1.ninL hx
  refine ⟨x, dx, vs, xs, w1, (w1.put dx (.own x)).laid x (.ins (He.ga K c) dx []), rfl, rfl, k1, k3, s13, hx, ?_, List.mem_cons_self, hxL, r1.mono s13.pre (s13.ext k1.sub), hl, Good.imp (Good.bind1 h1) (fun ys S2 h2 => ?_) fun _ _ _ h => h.step s1 I.ok k1⟩
  · show upd _ x _ x = _
    rw [upd_same]
  · intro w' e' s' k' hO hL sk
    refine ⟨rfl, post_call I.ok k1 s1 h2 w' (.ref x) e' s' k' ?_⟩
    obtain ⟨dx', vs', hp, hl', r'⟩ := sk
    have hxO : x ∉ w1.O := k1.nin hx
    have nin : x ∉ w1.O ++ w'.L := fun z => (List.mem_append.mp z).elim hxO hL
    refine ⟨x, dx', vs', rfl, ?_, hl', r'.mono (List.prefix_refl _) fun a o h => ?_⟩
    · rw [cut_out nin]; exact hp
    · obtain ⟨z1, z2⟩ := cut_some h
      rw [cut_out fun z => z1 ((List.mem_append.mp z).elim (s'.omono a) (k'.sub a))]
      exact z2
theorem ke_make {P : Program} {w : World} {K : PySem.W.Frag} {mg : Str → Option Value} {base : Heap} {X : Cx} {G : Wd} {E : EK} {k n : Nat} {c : Str} {ns : List Str} {f : Addr} {fd : FuncData} {ps : List Str} {m : List PV → Store → Res (List PV)} {p pos e es t fa} (M : Mk K (He.ga K c) f) (F : FnG P w K mg base k f fd ps (spI K mg c ns n m)) (hg0 : X.A.guards = some []) (hr : Room (k + 1) X.A) (hm : mg c = some (.ref (He.ga K c)))
    (hb : Binds K fd ps []) (hx : ∀ σ, PassesAt (L2.CX P w) X σ (E σ)) (ha : FA X G E (e :: es) t fa) (ci : CtxIs X P w K mg base := by exact ⟨rfl, rfl, rfl, rfl, rfl⟩) (hg : Gl X c := by rfl) (hdb : (c == ("__debug__" : Str)) = false := by decide) (he : starEach (e :: es) X.env = (false, eval e X.env) :: starEach es X.env := by rfl)
    (hpl : (backTo pos (starEach es X.env)).any (·.1) = false := by rfl) : FE X G E (.Call (.Name c p) (e :: es) [] pos) (tMakeG (He.ga K c) (spI K mg c ns n m) E t) (mMake n c ns m fa) := by
  obtain ⟨rfl, rfl, rfl, rfl, rfl⟩ := ci
  exact ⟨peG_make M F hg0 hr hg hm hb hx ha.pe hdb he hpl, sim_make ha.sim⟩
/-! ### e.f of an instance -/
theorem zip_lookup {K : PySem.W.Frag} {L : List Addr} {Hc : Hp} {f : Str} {x : PV} : ∀ {ns : List Str} {xs : List PV} {vs : List V}, RVs K L Hc xs vs → (ns.zip xs).lookup f = some x → ∃ v, (ns.zip vs).lookup f = some v ∧ RV K L Hc x v
  | [], xs, vs, _, h => by simp at h
  | n :: ns, [], vs, _, h => by simp at h
  | n :: ns, y :: xs, vs, r, h => by
    obtain ⟨u, us, rfl, r1, r2⟩ := r
    simp only [List.zip_cons_cons, List.lookup_cons] at h ⊢
    cases e : f == n with
    | true =>
      rw [e] at h
      cases h
      exact ⟨u, rfl, r1⟩
    | false =>
      rw [e] at h
      exact zip_lookup r2 h
def mFldI (c f : Str) (fe : Rho → Store → Res PV) : Rho → Store → Res PV := fun ρ S => (fe ρ S).bind fun x S1 => match x with
  | .ins c' ns xs => if c' = c then (match (ns.zip xs).lookup f with
    | some y => .ok y S1
    | none => .bad) else .bad
  | _ => .bad
theorem sim_fldI {K : PySem.W.Frag} {mg : Str → Option Value} {G : Wd} {E : EK} {c f : Str} {te fe} (hC : Cls K (He.ga K c)) (hn : NoAttr K (He.ga K c) f) (he : ESim K mg G E te fe) : ESim K mg G E (L2.tFld K te f) (mFldI c f fe) := fun w ρ σ Q I q => by
  refine he w ρ σ _ I (Good.imp (Good.bind1 q) (fun x S1 h1 => ?_) fun _ _ _ h => h)
  intro w1 v e1 s1 k1 r1
  subst e1
  cases x <;> first | exact h1.elim | skip
  rename_i c' ns xs
  obtain ⟨a, dx, vs, rfl, hp, hl, r2⟩ := r1
  obtain ⟨rfl, h2⟩ := good_if h1
  cases e : (ns.zip xs).lookup f with
  | none => rw [e] at h2; exact h2.elim
  | some y =>
    rw [e] at h2
    obtain ⟨u, e2, r3⟩ := zip_lookup r2 e
    exact ⟨a, _, dx, _, u, rfl, (cut_some hp).2, hC, hn, e2, h2 w1 u rfl s1 k1 r3⟩
theorem fe_fldI {K : PySem.W.Frag} {X : Cx} {G : Wd} {E : EK} {c f : Str} {e : Expr} {pos : Pos} {te fe} (hC : Cls K (He.ga K c)) (hn : NoAttr K (He.ga K c) f) (he : FE X G E e te fe) (hK : X.K = K := by rfl) (hb : attributeBase e f X.env (eval e X.env) = eval e X.env := by rfl) : FE X G E (.Attribute e f pos) (L2.tFld K te f) (mFldI c f fe) := by
  subst hK
  exact ⟨pe_fld he.pe hb, sim_fldI hC hn he.sim⟩
/-! ### what the text must know of an own class -/
structure KCls (K : PySem.W.Frag) (mg : Str → Option Value) (c : Str) (f : Addr) (ns : List Str) : Prop where
  M : Mk K (He.ga K c) f
  C : Cls K (He.ga K c)
  n : ∀ f ∈ ns, NoAttr K (He.ga K c) f
  g : mg c = some (.ref (He.ga K c))
  c1 : PySem.W.findIn K (.ref (He.ga K c)) "__class__" = some (some (.builtin "object.__class__"))
  c2 : PySem.W.specialIn K (.builtin "object.__class__") "__get__" = some (some (.builtin "getset_descriptor.__get__"))
  c3 : PySem.W.takesIn K (.builtin "object.__class__") = some true
  c4 : PySem.W.mroIn K (He.ga K c) (.type "object") = some true
  k : PySem.W.kitOne K (.ref (He.ga K c)) (.ref (He.ga K c)) = some true
/-- isinstance(e, c), e an instance of c -/
def mIsiC (c : Str) (f : Rho → Store → Res PV) : Rho → Store → Res PV := fun ρ S => (f ρ S).bind fun x S1 => match x with
  | .ins c' _ _ => if c' = c then .ok (.bl true) S1 else .bad
  | _ => .bad
theorem fe_isiC {K : PySem.W.Frag} {mg : Str → Option Value} {X : Cx} {G : Wd} {E : EK} {c : Str} {fI : Addr} {ns : List Str} {p pT pos e te f} (T : KCls K mg c fI ns) (hm : X.mg "isinstance" = none) (he : FE X G E e te f) (hK : X.K = K := by rfl) (hmg : X.mg = mg := by rfl) (hg : Gl X "isinstance" := by rfl) (hgT : Gl X c := by rfl) (hdb : (c == ("__debug__" : Str)) = false := by decide)
    (hs : starEach [e, .Name c pT] X.env = (false, eval e X.env) :: starEach [.Name c pT] X.env := by rfl) (hpl : (backTo pos (starEach [.Name c pT] X.env)).any (·.1) = false := by rfl) (hs2 : starEach [.Name c pT] X.env = (false, eval (.Name c pT) X.env) :: starEach [] X.env := by rfl) :
    FE X G E (.Call (.Name "isinstance" p) [e, .Name c pT] [] pos) (tCB (rIsi K) (tCons te (tCons (tC (.ref (He.ga K c))) tNil))) (mIsiC c f) := by
  subst hK hmg
  exact ⟨pe_callB call_isi hg hm (by decide +kernel) (pa_cons he.pe (pa_cons (pe_glob hgT T.g rfl hdb) pa_nil hs2) hs) (by decide) (by decide) hs hpl, fun w ρ σ Q I q => by
  refine he.sim w ρ σ _ I (Good.imp (Good.bind1 q) (fun x S1 h1 => ?_) fun _ _ _ h => h)
  intro w1 v e1 s1 k1 r1
  subst e1
  cases x <;> first | exact h1.elim | skip
  rename_i c' ns' xs
  obtain ⟨a, dx, vs, rfl, hp, hl, r2⟩ := r1
  obtain ⟨rfl, h2⟩ := good_if h1
  exact ⟨.ref a, .ref (He.ga X.K c'), _, _, true, rfl, .own _, .base (.ins (cut_some hp).2 T.C T.c1 T.c2 T.c3 T.c4), T.k, h2 w1 (.bl true) rfl s1 k1 rfl⟩⟩
def kclsB (K : PySem.W.Frag) (c : Str) (ns : List Str) : Bool :=
  He.eqO (PySem.W.nsIn K mainGlobals c) (some (some (.ref (He.ga K c)))) && (PySem.W.makesIn K (He.ga K c) && (He.eqO (PySem.W.findIn K (.ref (He.ga K c)) "__init__") (some (some (.ref (He.fAd K (c, some "__init__"))))) && (PySem.W.isFn K (.ref (He.fAd K (c, some "__init__"))) &&
  (PySem.W.keepIn K (.ref (He.ga K c)) && (PySem.W.plainGet K (He.ga K c) Str.empty && (PySem.W.hasDictIn K (He.ga K c) && (PySem.W.plainOver K (He.ga K c) && (He.eqO (PySem.W.findIn K (.ref (He.ga K c)) "__setattr__") (some (some (.builtin "object.__setattr__"))) &&
  ((ns.all fun f => He.eqO (PySem.W.findIn K (.ref (He.ga K c)) f) (some none)) && (He.eqO (PySem.W.findIn K (.ref (He.ga K c)) "__class__") (some (some (.builtin "object.__class__"))) && (He.eqO (PySem.W.specialIn K (.builtin "object.__class__") "__get__") (some (some (.builtin "getset_descriptor.__get__"))) &&
  (decide (PySem.W.takesIn K (.builtin "object.__class__") = some true) && (decide (PySem.W.mroIn K (He.ga K c) (.type "object") = some true) && decide (PySem.W.kitOne K (.ref (He.ga K c)) (.ref (He.ga K c)) = some true))))))))))))))
theorem kcls_ok {K : PySem.W.Frag} {h : Heap} {mg : Str → Option Value} {c : Str} {ns : List Str} (X : K.In h) (G : h.Ns mainGlobals mg) (q : kclsB K c ns = true) : KCls K mg c (He.fAd K (c, some "__init__")) ns := by
  obtain ⟨h1, q⟩ := He.ba q
  obtain ⟨h2, q⟩ := He.ba q
  obtain ⟨h3, q⟩ := He.ba q
  obtain ⟨h4, q⟩ := He.ba q
  obtain ⟨h5, q⟩ := He.ba q
  obtain ⟨h6, q⟩ := He.ba q
  obtain ⟨h7, q⟩ := He.ba q
  obtain ⟨h8, q⟩ := He.ba q
  obtain ⟨h9, q⟩ := He.ba q
  obtain ⟨h10, q⟩ := He.ba q
  obtain ⟨h11, q⟩ := He.ba q
  obtain ⟨h12, q⟩ := He.ba q
  obtain ⟨h13, q⟩ := He.ba q
  obtain ⟨h14, h15⟩ := He.ba q
  exact ⟨⟨h2, He.eqO_ok h3, h4, h5⟩, ⟨h6, h7, h8, He.eqO_ok h9⟩, fun f hf => He.eqO_ok (List.all_eq_true.mp h10 f hf), PySem.W.mg_of X G (He.eqO_ok h1), He.eqO_ok h11, He.eqO_ok h12, of_decide_eq_true h13, of_decide_eq_true h14, of_decide_eq_true h15⟩
end Mir
set_option maxHeartbeats 4000000
/-! MirU: comprehensions that make a dict of any kind; dicts whose keys are tuples of ints; sorted(..) of such. -/
namespace Mir
open PySem PySem.Spec PyProof.Rows L2

/-! ### a dict comprehension, the dict told by what its puts do -/
/-- Pt D H y z H': D[y] = z leads from H to H' -/
def PutOk (X : Cx) (Pt : Addr → Hp → V → V → Hp → Prop) : Prop := ∀ (pins : List (Addr × Obj)) (σ : L2.St) (H : Hp) (s : Shared) (D : Addr) (y z : V) (H' : Hp) (u r : Value) (Z : Value → Shared → Prop) (Q : Unit → Shared → Prop),
  Inv X pins σ H s → Pt D H y z H' → RelV y u → RelV z r → (∀ s', Inv X pins σ H' s' → Q () s') → wpAny (model X.prog X.w) X.A (dictSet D u r) Q Z s
/-- what one turn must do -/
def TurnD (Pt : Addr → Hp → V → V → Hp → Prop) (g : TG) (tt : TT) (tk tv : TE) (vs : List Nat) (σ : L2.St) (D : Addr) (x : V) (H : Hp) (Nx : Hp → Prop) : Prop :=
  g x (L2.wipe σ vs) H fun σ2 H2 => L2.wipe σ2 vs = L2.wipe σ vs ∧ tt σ2 H2 fun b H3 => if b = true then tk σ2 H3 fun y H4 => tv σ2 H4 fun z H5 => ∃ H6, Pt D H5 y z H6 ∧ Nx H6 else Nx H3
def tDcG (o0 : Addr → HO) (Pt : Addr → Hp → V → V → Hp → Prop) (wi : TI) (g : TG) (tt : TT) (tk tv : TE) (vs : List Nat) : TE := fun σ H Q => wi σ H fun J H1 => ∀ D, H1 D = none → ∃ W : Nat → Nat → Hp → Prop, (∃ m, W 0 m (upd H1 D (o0 D))) ∧ ∀ i m H, W i m H →
  (J.stop i H ∧ Q (.ref D) H) ∨ (J.go i H ∧ ∃ Nx : Hp → Prop, (∀ H', Nx H' → ∃ m', m' < m ∧ W (i + 1) m' H') ∧ ∀ x H', J.yld i H x H' → TurnD Pt g tt tk tv vs σ D x H' Nx)
section
variable {X : Cx}
theorem pe_dcG {o0 : Addr → HO} {Pt : Addr → Hp → V → V → Hp → Prop} {kx vx tg iter : Expr} {ifs : List Expr} {scope : Scope} {own : List (Str × Nat)} {pos : Pos} {wi : TI} {g : TG} {tt : TT} {tk tv : TE} (hc : X.calm = true) (hN : X.N.Nodup)
    (h0 : ∀ (H : Hp) (h : Heap), sysModules < h.objs.size → ObjOk X.prog X.w H (h.push { cls := .type "dict", data := .dict #[] }) h.objs.size (o0 h.objs.size))
    (hp : ∀ (s : Shared) (H : Hp) (ce : Env) (fp : List Addr), PutOk (X.blk s H scope ce fp) Pt) (hi : PI X tg iter wi) (ok : BlkOk X.N X.env.scope scope own)
    (hg : ∀ (s : Shared) (H : Hp) (C : Addr) (cl : List (Str × Addr)) (fp : List Addr), PG (X.blk s H scope (compEnvC scope cl C X.env) fp) tg g) (ht : ∀ (s : Shared) (H : Hp) (C : Addr) (cl : List (Str × Addr)) (fp : List Addr), PTs (X.blk s H scope (compEnvC scope cl C X.env) fp) ifs tt)
    (hk : ∀ (s : Shared) (H : Hp) (C : Addr) (cl : List (Str × Addr)) (fp : List Addr), PE (X.blk s H scope (compEnvC scope cl C X.env) fp) kx tk)
    (hv : ∀ (s : Shared) (H : Hp) (C : Addr) (cl : List (Str × Addr)) (fp : List Addr), PE (X.blk s H scope (compEnvC scope cl C X.env) fp) vx tv) (hs : ∀ x, foldedSetIterable iter X.env x = pure x := by intro _; rfl) :
    PE X (.DictComp kx vx [⟨tg, iter, ifs, 0⟩] scope pos) (tDcG o0 Pt wi g tt tk tv (own.map (·.2))) := by
  refine ⟨fun pins s σ H Q J0 hq => ?_⟩
  rw [arm_eval_DictComp]
  have frees : ∀ y ∈ scope.names, y.2 = .free → ∃ c, X.env.cells.lookup y.1 = some c := fun y hy e => (ok.free y hy e).elim (fun k => J0.ok.has _ (.inl k)) fun k => J0.ok.has _ (.inr k)
  refine wpAny_comprehension_free (use := none) rfl hs (closure_ok frees) ok.kind (fun y hy e => by rw [ok.uniq y hy, e]) (thn (hi.run pins s σ H _ J0 hq) fun _ t1 w1 => thn w1 fun _ t2 w2 => ?_)
  obtain ⟨it, fp, tn, J, H2, rfl, J2, T, beg, fine, q⟩ := w2
  refine wpAny_newObj_type (newEnv_comp ?_)
  obtain ⟨W, ⟨m0, b0⟩, turn⟩ := q t2.heap.objs.size (J2.hok.fresh (Nat.le_refl _))
  -- the new dict
  obtain ⟨t3, e3⟩ : ∃ t3 : Shared, t3 = { t2 with heap := t2.heap.push { cls := .type "dict", data := .dict #[] } } := ⟨_, rfl⟩
  have J3 : Inv X pins σ (upd H2 t2.heap.objs.size (o0 t2.heap.objs.size)) t3 := by
    rw [e3]
    exact J2.laid (t' := t2.toks) (fun b o e => Heap.get?_push_of_some _ e) (Nat.le_refl _) (h0 _ t2.heap J2.big)
  have p3 : t3.heap = t2.heap.push { cls := .type "dict", data := .dict #[] } := by rw [e3]
  have low : ∀ b ∈ fp, b < t2.heap.objs.size := fun b hb => let ⟨_, e, _⟩ := T.obj _ _ beg b hb; Heap.lt_size e
  have fine3 : ∀ b ∈ fp, FpOk X pins (upd H2 t2.heap.objs.size (o0 t2.heap.objs.size)) b ∧ b < t3.heap.objs.size := fun b hb =>
    ⟨⟨by rw [upd_ne (Nat.ne_of_lt (low b hb))]; exact (fine b hb).1, (fine b hb).2⟩, by rw [p3, Heap.size_push]; exact Nat.lt_succ_of_lt (low b hb)⟩
  have beg3 : tn 0 t3.heap := T.keep _ _ _ beg fun b _ o e => by rw [p3]; exact Heap.get?_push_of_some _ e
  have J4 := block_start J3 ok hN fine3
  have Gt := hg t3 (upd H2 t2.heap.objs.size (o0 t2.heap.objs.size)) t3.heap.objs.size (cellsFrom (t3.heap.objs.size + 1) scope.names (cloFrom X.env.cells scope.names [])) fp
  have Tt := ht t3 (upd H2 t2.heap.objs.size (o0 t2.heap.objs.size)) t3.heap.objs.size (cellsFrom (t3.heap.objs.size + 1) scope.names (cloFrom X.env.cells scope.names [])) fp
  have Kt := hk t3 (upd H2 t2.heap.objs.size (o0 t2.heap.objs.size)) t3.heap.objs.size (cellsFrom (t3.heap.objs.size + 1) scope.names (cloFrom X.env.cells scope.names [])) fp
  have Vt := hv t3 (upd H2 t2.heap.objs.size (o0 t2.heap.objs.size)) t3.heap.objs.size (cellsFrom (t3.heap.objs.size + 1) scope.names (cloFrom X.env.cells scope.names [])) fp
  have Pp := hp t3 (upd H2 t2.heap.objs.size (o0 t2.heap.objs.size)) (compEnvC scope (cellsFrom (t3.heap.objs.size + 1) scope.names (cloFrom X.env.cells scope.names [])) t3.heap.objs.size X.env) fp
  have nof : ∀ b ∈ fp, (upd H2 t2.heap.objs.size (o0 t2.heap.objs.size)) b = none := fun b hb => (fine3 b hb).1.1
  rw [← e3]
  show codeAny _ _ (.compStart (.DictComp kx vx [⟨tg, iter, ifs, 0⟩] scope pos) 0 (.ref it) (.ref t2.heap.objs.size) (compEnvC scope (cellsFrom (t3.heap.objs.size + 1) scope.names (cloFrom X.env.cells scope.names [])) t3.heap.objs.size X.env)) (compPost (model X.prog X.w) X.A X.xe none _ (.ref t2.heap.objs.size) t3.heap.objs.size) { t3 with heap := pushCells (t3.heap.push { cls := .type "dict", data := .dict #[] }) scope.names }
  generalize t2.heap.objs.size = D at *
  have cL : (compEnvC scope (cellsFrom (t3.heap.objs.size + 1) scope.names (cloFrom X.env.cells scope.names [])) t3.heap.objs.size X.env).locals = t3.heap.objs.size := rfl
  generalize hce : compEnvC scope (cellsFrom (t3.heap.objs.size + 1) scope.names (cloFrom X.env.cells scope.names [])) t3.heap.objs.size X.env = ce at *
  generalize upd H2 D (o0 D) = H3 at *
  generalize hs4 : ({ t3 with heap := pushCells (t3.heap.push { cls := .type "dict", data := .dict #[] }) scope.names } : Shared) = t4 at *
  have beg4 : tn 0 t4.heap := T.keep _ _ _ beg3 fun b _ o e => by rw [← hs4]; exact pushCells_keeps _ _ _ _ (Heap.get?_push_of_some _ e)
  have same : ∀ {σ' : L2.St} {H' : Hp} {s' : Shared}, Inv (X.blk t3 H3 scope ce fp) [] σ' H' s' → (∀ b ∈ fp, H' b = none) → ∀ b ∈ fp, FpOk (X.blk t3 H3 scope ce fp) [] H' b := fun {σ' H' s'} J' no b hb =>
    ⟨no b hb, (J'.ok.exf b hb).1, J'.ok.exfs b hb, .inl hb, fun x c e => (J'.ok.exf b hb).2 x c e, fun p hp => absurd (show p ∈ ([] : List (Addr × Obj)) ++ [] from hp) (by simp)⟩
  have loop : codeAny (model X.prog X.w) X.A (.compLoop (.DictComp kx vx [⟨tg, iter, ifs, 0⟩] scope pos) 0 (.ref it) (.ref D) ce) (compPost (model X.prog X.w) X.A X.xe none (fun v s' => ∃ y H', Inv X pins σ H' s' ∧ RelV y v ∧ Q y H') (.ref D) t3.heap.objs.size) t4 := by
    refine compLoop_anyD (fun n s' => ∃ i H', Inv (X.blk t3 H3 scope ce fp) [] (L2.wipe σ (own.map (·.2))) H' s' ∧ tn i s'.heap ∧ (∀ b ∈ fp, H' b = none) ∧ W i n H') ?_ m0 ⟨0, H3, J4, beg4, nof, b0⟩
    rintro n t5 ⟨i, H5, J5, at5, no5, b5⟩
    rcases turn i n H5 b5 with ⟨stop, qq⟩ | ⟨go, Nx, hNx, step⟩
    · refine thnF (T.done (X.blk t3 H3 scope ce fp) rfl rfl rfl hc i [] t5 _ H5 (fun _ _ => False) J5 (same J5 no5) at5 stop) fun r t6 ⟨hr, J6⟩ => ?_
      subst hr
      have J7 : Inv X pins σ H5 t6 := J3.call' (ch := fp) J6.os J6.base J6.hok J6.bare fun b hb => let z := (fine3 b hb).1.2; ⟨z.2.2.1, z.1, z.2.2.2.1, z.2.2.2.2⟩
      have nC : H5 t3.heap.objs.size = none := by
        have z : H5 ce.locals = none := J6.free
        rwa [cL] at z
      obtain ⟨m, hn, _⟩ := J6.loc
      have hn : t6.heap.Ns ce.locals m := hn
      rw [cL] at hn
      obtain ⟨f0, f1, f2, f3, f4, f5⟩ := J3.fpOk (Nat.le_refl _) nC
      exact ⟨m, hn, fun h'' sb => ⟨.ref D, H5, J7.turned (t' := t6.toks) (fun b o hb e => (sb.2 b hb).trans e) f0 f1 f3 f4 f5, rfl, qq⟩⟩
    · refine thnF (T.item (X.blk t3 H3 scope ce fp) rfl rfl rfl hc i [] t5 _ H5 (fun _ _ => False) J5 (same J5 no5) at5 go) fun r t6 ⟨u, hr, w6⟩ => ?_
      subst hr
      refine thnF w6 fun _ t7 ⟨x, H7, J7, r7, y7, at7, no7⟩ => ?_
      have J7' := J7.pinned (same J7 no7) (T.obj _ _ at7)
      refine thnF (Gt.run _ t7 _ H7 x u _ J7' r7 (step x H7 y7)) fun _ t8 ⟨σ8, H8, J8, same8, q8⟩ => ?_
      refine thnF (Tt.run _ t8 σ8 H8 _ J8 q8) fun b t9 ⟨H9, J9, q9⟩ => ?_
      have fin : ∀ {s' : Shared} {H' : Hp}, Inv (X.blk t3 H3 scope ce fp) ([] ++ pinsAt fp t7.heap) σ8 H' s' → Nx H' → ∃ m, m < n ∧ ∃ i H', Inv (X.blk t3 H3 scope ce fp) [] (L2.wipe σ (own.map (·.2))) H' s' ∧ tn i s'.heap ∧ (∀ b ∈ fp, H' b = none) ∧ W i m H' := fun {s' H'} J' nx => by
        obtain ⟨m', hm, b'⟩ := hNx H' nx
        have pin' : ∀ b ∈ fp, ∀ o, t7.heap.get? b = some o → s'.heap.get? b = some o ∧ H' b = none := fun b hb o e =>
          let z := J'.pin (b, o) (List.mem_append_right _ (List.mem_append_right _ (mem_pinsAt hb e)))
          ⟨z.1, z.2.1⟩
        have hl : (L2.wipe σ (own.map (·.2))).length = σ8.length := by rw [← same8, wipe_length]
        refine ⟨m', hm, i + 1, H', (J'.unpinned (pins := [])).weak hl (fun j v e => by rw [← same8] at e; exact (wipe_some e).1), T.keep _ _ _ at7 fun b hb o e => (pin' b hb o e).1, fun b hb => ?_, b'⟩
        obtain ⟨o, e, _⟩ := T.obj _ _ at7 b hb
        exact (pin' b hb o e).2
      cases b with
      | false =>
        simp only [Bool.false_eq_true, if_false] at q9 ⊢
        exact fin J9 q9
      | true =>
        simp only [if_true] at q9 ⊢
        refine thnF (Kt.run _ t9 σ8 H9 _ J9 q9) fun k10 t10 ⟨yk, H10, J10, r10, q10⟩ => ?_
        refine thnF (Vt.run _ t10 σ8 H10 _ J10 q10) fun v11 t11 ⟨yv, H11, J11, r11, H12, put, nx⟩ => ?_
        exact Pp _ _ _ _ D yk yv H12 _ _ _ _ J11 put r10 r11 fun t12 J12 => fin J12 nx
  exact codeAny_compStart_dict loop (T.self X.A 0 _ _ _ beg4 loop)
end

/-! ### dicts whose keys are tuples of ints: L, the keys' addresses with their ints -/
structure DictT0 (P : Program) (w : World) (h : Heap) (a : Addr) (L : List (Addr × List Int)) : Prop where
  lo : (a == sysModules) = false
  ex : ∃ xs : List (List Int × Addr × Value), L = xs.map (fun x => (x.2.1, x.1)) ∧ ∃ o es ep, h.get? a = some o ∧ o.ExactDict ∧ o.data = .dict es ep ∧ es.toList = xs.map (entryOfKey (tupleKind (intKind P w))) ∧ (xs.map (·.1)).Nodup
def DictTO (P : Program) (w : World) (a : Addr) (L : List (Addr × List Int)) : HO := .ext fun h => DictT0 P w h a L
theorem dictTO_new {P : Program} {w : World} {H : Hp} {h : Heap} {a : Addr} {L : List (Addr × List Int)} (R : DictT0 P w h a L) : ObjOk P w H h a (DictTO P w a L) := by
  have ⟨lo, xs, e, o, es, ep, ho, r⟩ := R
  exact ⟨R, ⟨o, ho⟩, fun h1 h2 ⟨lo', xs', e', o', es', ep', ho', r'⟩ k => ⟨lo', xs', e', o', es', ep', k o' ho', r'⟩⟩
theorem dictTO_empty {P : Program} {w : World} {H : Hp} (h : Heap) (hb : sysModules < h.objs.size) : ObjOk P w H (h.push { cls := .type "dict", data := .dict #[] }) h.objs.size (DictTO P w h.objs.size []) :=
  dictTO_new ⟨beq_eq_false_iff_ne.mpr (Ne.symm (Nat.ne_of_lt hb)), [], rfl, _, #[], 0, Heap.get?_push_size _ rfl, ⟨rfl, rfl, rfl⟩, rfl, rfl, List.nodup_nil⟩
theorem DictT0.full {P : Program} {w : World} {h : Heap} {a : Addr} {L : List (Addr × List Int)} (R : DictT0 P w h a L) (ht : ∀ p ∈ L, IsT P w h p.2 p.1) : ∃ xs : List (List Int × Addr × Value), L = xs.map (fun x => (x.2.1, x.1)) ∧ h.DictOfH (tupleKind (intKind P w)) a xs := by
  obtain ⟨lo, xs, rfl, o, es, ep, ho, hx, hd, he, hn⟩ := R
  exact ⟨xs, rfl, o, es, ep, ho, hx, hd, he, fun x m => ht _ (List.mem_map.mpr ⟨x, m, rfl⟩), hn⟩
/-- a key is put: where it stands already, its first tuple stays -/
def putT (L : List (Addr × List Int)) (b : Addr) (k : List Int) : List (Addr × List Int) := if k ∈ L.map (·.2) then L else L ++ [(b, k)]
theorem putT_stored (xs : List (List Int × Addr × Value)) (k : List Int) (b : Addr) (v : Value) : (storedH xs k b v).map (fun x => (x.2.1, x.1)) = putT (xs.map (fun x => (x.2.1, x.1))) b k := by
  have em : (xs.map (fun x => (x.2.1, x.1))).map (·.2) = xs.map (·.1) := by rw [List.map_map]; rfl
  unfold putT
  rw [em]
  cases q : atKey xs k with
  | none =>
    have hk : k ∉ xs.map (·.1) := by
      intro m
      have z := any_pairsH xs k
      rw [q] at z
      obtain ⟨x, hx, e⟩ := List.mem_map.mp m
      have y : ((pairsH xs).any fun kv => decide (kv.1 = k)) = true := List.any_eq_true.mpr ⟨(x.1, x.2.2), List.mem_map.mpr ⟨x, hx, rfl⟩, by simp [e]⟩
      rw [y] at z
      cases z
    rw [storedH_new q, if_neg hk, List.map_append]
    rfl
  | some p =>
    have hk : k ∈ xs.map (·.1) := by
      have z := any_pairsH xs k
      rw [q] at z
      obtain ⟨y, hy, e⟩ := List.any_eq_true.mp z
      obtain ⟨x, hx, rfl⟩ := List.mem_map.mp hy
      exact List.mem_map.mpr ⟨x, hx, of_decide_eq_true e⟩
    rw [storedH_old q, if_pos hk, List.map_map]
    refine List.map_congr_left fun x _ => ?_
    by_cases h : x.1 = k <;> simp [putAt, h]
def PtT (P : Program) (w : World) (K : PySem.W.Frag) : Addr → Hp → V → V → Hp → Prop := fun D H y _ H' => ∃ L b k, y = .ref b ∧ H D = some (DictTO P w D L) ∧ L.length < sizeLine ∧ (∀ p ∈ L, SqT K H p.1 (p.2.map V.int)) ∧ SqT K H b (k.map V.int) ∧ H' = upd H D (DictTO P w D (putT L b k))
theorem putOk_T {X : Cx} (hu : X.A.units < cLine) : PutOk X (PtT X.prog X.w X.K) := by
  rintro pins σ H s D y z H' u r Z Q I ⟨L, b, k, rfl, hD, hz, ht, hb, rfl⟩ ry _ h
  cases (show u = Value.ref b from ry)
  have R : DictT0 X.prog X.w s.heap D L := (I.hok D _ hD).1
  obtain ⟨xs, rfl, dd⟩ := R.full fun p hp => I.isT (ht p hp)
  refine wpAny_dictSet_heap (knd := tupleKind (intKind X.prog X.w)) hu (I.isT hb) dd (fun h' dd' hs => h _ ?_) (by rw [List.length_map] at hz; omega)
  obtain ⟨o, es, ep, ho, hx, hd, he, _, hn⟩ := dd'
  refine d_write I (by rw [hD]; exact True.intro) hs ⟨o, ho⟩ (dictTO_new ⟨R.lo, storedH xs k b r, (putT_stored xs k b r).symm, o, es, ep, ho, hx, hd, he, hn⟩)
theorem perm_map {α β : Type} (f : α → β) {l m : List β} (h : l.Perm m) : ∀ L : List α, m = L.map f → ∃ L' : List α, L'.Perm L ∧ l = L'.map f := by
  induction h with
  | nil => exact fun L e => ⟨L, .refl _, e⟩
  | cons x h ih =>
    intro L e
    cases L with
    | nil => cases e
    | cons a L =>
      injection e with e1 e2
      obtain ⟨L', p, q⟩ := ih L e2
      exact ⟨a :: L', p.cons a, by rw [List.map_cons, e1, q]⟩
  | swap x y l =>
    intro L e
    match L, e with
    | a :: b :: L, e =>
      injection e with e1 e2
      injection e2 with e2 e3
      exact ⟨b :: a :: L, .swap _ _ _, by rw [List.map_cons, List.map_cons, e1, e2, e3]⟩
  | trans h1 h2 ih1 ih2 =>
    intro L e
    obtain ⟨L1, p1, q1⟩ := ih2 L e
    obtain ⟨L2, p2, q2⟩ := ih1 L1 q1
    exact ⟨L2, p2.trans p1, q2⟩
/-- sorted(d): fewer than 64 keys of k ints in [0, B) -/
def rSortD (K : PySem.W.Frag) (P : Program) (w : World) (B : Int) : List V → Hp → VK → Prop := fun vs H Q => ∃ (a : Addr) (L : List (Addr × List Int)) (d : Nat), vs = [V.ref a] ∧ H a = some (DictTO P w a L) ∧ (∀ p ∈ L, SqT K H p.1 (p.2.map V.int)) ∧ 1 ≤ d ∧ L.length < 64 ∧ (∀ p ∈ L, p.2.length = d ∧ TS.Bd B p.2) ∧
  ∀ (M : List (Addr × List Int)) (p : Addr), M.Perm L → M.Pairwise (fun q r => TS.code B q.2 ≤ TS.code B r.2) → H p = none → Q (.ref p) (upd H p (.lst (M.map fun q => V.ref q.1)))
theorem cr_sortD {X : Cx} {B : Int} (hc : X.calm = true) : CallR X (.builtin "sorted") (rSortD X.K X.prog X.w B) := by
  rintro pins s σ H vs us Q I r ⟨a, L, d, rfl, ha, ht, hd1, h64, hB, q⟩
  have R : DictT0 X.prog X.w s.heap a L := (I.hok a _ ha).1
  have tt : ∀ p ∈ L, IsT X.prog X.w s.heap p.2 p.1 := fun p hp => I.isT (ht p hp)
  obtain ⟨lo, xs, rfl, o, es, ep, ho, hx, hdt, he, hn⟩ := R
  obtain ⟨u, rfl, ru⟩ := vals1 r
  cases ru
  have l1 : es.size = xs.length := size_of_entries he
  rw [List.length_map] at h64
  refine Calls.call_function_entry PyProof.Rows.kind_sorted PyProof.Rows.plain_sorted PyProof.Rows.entry_sorted (PyProof.Rows.args_sorted1 _) ?_
  unfold Builtin.«sorted»
  refine wpAny_bind (m := checkCount "sorted" 1 1 _) (wpAny_pure ?_)
  refine wpAny_bind (PySem.W.kdu_collect (A := X.A.in1) (kdl_raw lo hx hdt) (I.ok.hd hc) ho (by rw [sizeLine_eq]; omega) fun h' tk acc kp it => ?_)
  have ea : acc.toList = (xs.map (fun x => (x.2.1, x.1))).map fun p => Value.ref p.1 := by
    have hl : acc.toList.length = xs.length := by rw [Array.length_toList, it.1]; exact l1
    apply List.ext_getElem?
    intro j
    rw [List.map_map, List.getElem?_map]
    cases hj : acc.toList[j]? with
    | none => rw [List.getElem?_eq_none (by have := List.getElem?_eq_none_iff.mp hj; omega)]; rfl
    | some v =>
      obtain ⟨en, hen, hv⟩ := it.2 j v (by rw [← Array.getElem?_toList]; exact hj)
      have qe := entry_at he j
      rw [hen] at qe
      cases hb : xs[j]? with
      | none => rw [hb] at qe; exact nomatch (show some en = none from qe)
      | some b =>
        rw [hb] at qe
        rw [hv, show en = entryOfKey (tupleKind (intKind X.prog X.w)) b from Option.some.inj qe]
        rfl
  have hal : acc.toList.length = xs.length := by rw [ea, List.length_map, List.length_map]
  have J1 : Inv X pins σ H { s with heap := h', toks := tk } := I.kept kp
  refine wpAny_bind (wpAny_newList ?_ (by rw [hal, sizeLine_eq]; omega))
  have hoL : (h'.push (seqObj "list" acc.toList.toArray 0)).get? h'.objs.size = some (seqObj "list" acc.toList.toArray 0) := Heap.get?_push_size _ rfl
  have tk1 : ∀ q ∈ xs.map (fun x => (x.2.1, x.1)), TS.TupInts (h'.push (seqObj "list" acc.toList.toArray 0)) (.ref q.1) q.2 := fun q hq => tupInts_of (P := X.prog) (w := X.w) (isT_keep (tt q hq) fun b u e => Heap.get?_push_of_some _ (kp b u e))
  have tok : TS.TupsOk (h'.push (seqObj "list" acc.toList.toArray 0)) d B acc.toList := fun v hv => by
    rw [ea] at hv
    obtain ⟨q, hq, rfl⟩ := List.mem_map.mp hv
    exact ⟨q.2, tk1 q hq, (hB q hq).1, (hB q hq).2⟩
  show wpAny _ _ _ _ _ { s with heap := h'.push (seqObj "list" acc.toList.toArray 0), toks := tk }
  refine wpAny_bind (wpAny_holding (TS.call_sort_tups (s := { s with heap := h'.push (seqObj "list" acc.toList.toArray 0), toks := tk }) hoL (by rw [hal]; exact h64) hd1 tok fun out g1 g2 => ?_))
  obtain ⟨M, pm, eM⟩ := perm_map (fun p : Addr × List Int => Value.ref p.1) g1 (xs.map (fun x => (x.2.1, x.1))) ea
  have pw : M.Pairwise (fun q r => TS.code B q.2 ≤ TS.code B r.2) := by
    rw [eM] at g2
    refine List.Pairwise.imp_of_mem (fun {q r} hq hr hle => ?_) (List.pairwise_map.mp g2)
    rw [← (tk1 q (pm.mem_iff.mp hq)).ints, ← (tk1 r (pm.mem_iff.mp hr)).ints]
    exact hle
  obtain ⟨c, hc'⟩ := PyProof.Rows.sortedHeap_at (vs := acc.toList) (out := out) hoL
  have hlen : (M.map fun q => V.ref q.1).length ≤ sizeLine := by
    rw [List.length_map, pm.length_eq, List.length_map, sizeLine_eq]
    omega
  refine wpAny_pure ⟨_, rfl, .ref h'.objs.size, upd H h'.objs.size (.lst (M.map fun q => V.ref q.1)), J1.laid (t' := tk) (fun b u e => ?_) (Nat.le_refl _)
    (show ObjOk X.prog X.w _ _ _ (.lst (M.map fun q => V.ref q.1)) from ⟨hlen, out.toList, c, by rw [eM]; exact vals_of_refs M, by rw [Array.toArray_toList]; exact hc'⟩), rfl, q M _ pm pw (J1.hok.fresh (Nat.le_refl _))⟩
  have hb : b < h'.objs.size := Heap.lt_size e
  rw [PyProof.Rows.sortedHeap_old (Nat.ne_of_lt hb) (by rw [size_push']; exact Nat.lt_succ_of_lt hb)]
  exact Heap.get?_push_of_some _ e
end Mir
set_option maxHeartbeats 4000000
/-! MirU2: sorted({k: v for ..}), the keys tuples of ints. -/
namespace Mir
open PySem PySem.Spec PyProof.Rows L2
def toRow : PV → Option (List Int)
  | .tup xs => xs.mapM toI
  | _ => none
def addR (L : List (List Int)) (k : List Int) : List (List Int) := if k ∈ L then L else L ++ [k]
/-- each row where it comes first -/
def dedupR (L : List (List Int)) : List (List Int) := L.foldl addR []
def insR (B : Int) (r : List Int) : List (List Int) → List (List Int)
  | [] => [r]
  | q :: l => if TS.code B r ≤ TS.code B q then r :: q :: l else q :: insR B r l
def sortR (B : Int) : List (List Int) → List (List Int)
  | [] => []
  | r :: l => insR B r (sortR B l)
/-- fewer than 64 rows, all of as many ints in [0, B) -/
def rowsB (B : Int) (L : List (List Int)) : Bool := decide (L.length < 64) && match L with
  | [] => true
  | r :: _ => decide (1 ≤ r.length) && L.all fun q => decide (q.length = r.length) && q.all fun x => decide (0 ≤ x) && decide (x < B)
def rowV (r : List Int) : PV := .tup (r.map PV.int)
theorem insR_perm {B r} : ∀ L, (insR B r L).Perm (r :: L)
  | [] => .refl _
  | q :: l => by
    unfold insR
    split
    · exact .refl _
    · exact ((insR_perm l).cons q).trans (.swap _ _ _)
theorem sortR_perm {B} : ∀ L, (sortR B L).Perm L
  | [] => .refl _
  | r :: l => (insR_perm _).trans ((sortR_perm l).cons r)
theorem insR_sorted {B r} : ∀ {L : List (List Int)}, L.Pairwise (fun q p => TS.code B q ≤ TS.code B p) → (insR B r L).Pairwise (fun q p => TS.code B q ≤ TS.code B p)
  | [], _ => by simp [insR]
  | q :: l, h => by
    unfold insR
    rw [List.pairwise_cons] at h
    split
    · rename_i le
      refine List.pairwise_cons.mpr ⟨fun p hp => ?_, List.pairwise_cons.mpr h⟩
      rcases List.mem_cons.mp hp with rfl | hp
      · exact le
      · exact Int.le_trans le (h.1 p hp)
    · rename_i nle
      refine List.pairwise_cons.mpr ⟨fun p hp => ?_, insR_sorted h.2⟩
      rcases List.mem_cons.mp ((insR_perm l).mem_iff.mp hp) with rfl | hp
      · omega
      · exact h.1 p hp
theorem sortR_sorted {B} : ∀ L, (sortR B L).Pairwise (fun q p => TS.code B q ≤ TS.code B p)
  | [] => List.Pairwise.nil
  | r :: l => insR_sorted (sortR_sorted l)
theorem code_inj {B : Int} : ∀ {r q : List Int}, r.length = q.length → TS.Bd B r → TS.Bd B q → TS.code B r = TS.code B q → r = q
  | [], [], _, _, _, _ => rfl
  | [], _ :: _, h, _, _, _ => by simp at h
  | _ :: _, [], h, _, _, _ => by simp at h
  | d :: r, e :: q, hl, hr, hq, h => by
    have hz : r.length = q.length := by simpa using hl
    rcases Int.lt_trichotomy d e with c | c | c
    · have := TS.code_lt hz hr.tail hq.tail c; omega
    · subst c
      have h1 := TS.code_same (B := B) (d := d) hz
      have h2 := TS.code_same (B := B) (d := d) hz.symm
      have : TS.code B r = TS.code B q := by
        rcases Int.lt_trichotomy (TS.code B r) (TS.code B q) with k | k | k
        · have := h1.mpr k; omega
        · exact k
        · have := h2.mpr k; omega
      rw [code_inj hz hr.tail hq.tail this]
    · have := TS.code_lt hz.symm hq.tail hr.tail c; omega
theorem rowsB_ok {B L} (h : rowsB B L = true) : L.length < 64 ∧ ∃ d, 1 ≤ d ∧ ∀ r ∈ L, r.length = d ∧ TS.Bd B r := by
  unfold rowsB at h
  simp only [Bool.and_eq_true, decide_eq_true_eq] at h
  refine ⟨h.1, ?_⟩
  cases L with
  | nil => exact ⟨1, Nat.le_refl _, fun _ m => nomatch m⟩
  | cons r l =>
    have h2 := h.2
    simp only [Bool.and_eq_true, decide_eq_true_eq] at h2
    refine ⟨r.length, h2.1, fun q hq => ?_⟩
    have := List.all_eq_true.mp h2.2 q hq
    simp only [Bool.and_eq_true, decide_eq_true_eq, List.all_eq_true] at this
    exact ⟨this.1, fun m hm => this.2 m hm⟩
theorem dedupR_sub : ∀ (L : List (List Int)) (A : List (List Int)), (∀ r ∈ L.foldl addR A, r ∈ A ∨ r ∈ L) ∧ (L.foldl addR A).length ≤ A.length + L.length
  | [], A => ⟨fun r h => .inl h, Nat.le_refl _⟩
  | k :: L, A => by
    obtain ⟨h1, h2⟩ := dedupR_sub L (addR A k)
    refine ⟨fun r h => ?_, ?_⟩
    · rcases h1 r h with z | z
      · unfold addR at z
        split at z
        · exact .inl z
        · rcases List.mem_append.mp z with y | y
          · exact .inl y
          · exact .inr (by rw [List.mem_singleton.mp y]; exact List.mem_cons_self)
      · exact .inr (List.mem_cons_of_mem _ z)
    · refine Nat.le_trans h2 ?_
      unfold addR
      split
      · simp
      · simp; omega
theorem dedupR_snoc (L : List (List Int)) (k : List Int) : dedupR (L ++ [k]) = addR (dedupR L) k := by
  unfold dedupR
  rw [List.foldl_append]
  rfl
/-- rows that stand strictly ascending are left as they are -/
theorem dedupR_id {B : Int} {L : List (List Int)} (h : L.Pairwise (fun q r => TS.code B q < TS.code B r)) : dedupR L = L := by
  have key : ∀ (L A : List (List Int)), L.Pairwise (fun q r => TS.code B q < TS.code B r) → (∀ a ∈ A, ∀ r ∈ L, TS.code B a < TS.code B r) → L.foldl addR A = A ++ L := by
    intro L
    induction L with
    | nil => intro A _ _; simp
    | cons k L ih =>
      intro A hp ha
      rw [List.pairwise_cons] at hp
      have nk : k ∉ A := fun m => Int.lt_irrefl _ (ha k m k List.mem_cons_self)
      show L.foldl addR (addR A k) = _
      have e : addR A k = A ++ [k] := by unfold addR; rw [if_neg nk]
      rw [e, ih (A ++ [k]) hp.2 fun a m r hr => ?_]
      · simp
      · rcases List.mem_append.mp m with z | z
        · exact ha a z r (List.mem_cons_of_mem _ hr)
        · rw [List.mem_singleton.mp z]; exact hp.1 r hr
  unfold dedupR
  rw [key L [] h (fun _ m => nomatch m)]
  rfl
theorem sortR_id {B : Int} : ∀ {L : List (List Int)}, L.Pairwise (fun q r => TS.code B q < TS.code B r) → sortR B L = L
  | [], _ => rfl
  | r :: l, h => by
    rw [List.pairwise_cons] at h
    unfold sortR
    rw [sortR_id h.2]
    cases l with
    | nil => rfl
    | cons q l =>
      unfold insR
      rw [if_pos (Int.le_of_lt (h.1 q List.mem_cons_self))]
def mKey (fk fv : Rho → Store → Res PV) : Rho → Store → Res PV := fun ρ S => (fk ρ S).bind fun y S1 => (fv ρ S1).bind fun _ S2 => match toRow y with
  | some _ => .ok y S2
  | none => .bad
def sortV (B : Int) (ys : List PV) (S : Store) : Res SO := match ys.mapM toRow with
  | some L => if rowsB B L = true then .ok (.lst ((sortR B (dedupR L)).map rowV)) S else .bad
  | none => .bad
def mSortD (B : Int) (it : Rho → Store → Res (List PV)) (g : PV → Rho → Store → Res Rho) (t : Rho → Store → Res Bool) (fk fv : Rho → Store → Res PV) (vs : List Nat) : Rho → Store → Res SO := fun ρ S =>
  (it ρ S).bind fun xs S1 => if xs.length ≤ sizeM then (mLcGo g t (mKey fk fv) (mWipe ρ vs) xs S1).bind (sortV B) else .bad
theorem mapM_snoc {α β : Type} {f : α → Option β} {y : α} {b : β} (hy : f y = some b) : ∀ {xs : List α} {bs : List β}, xs.mapM f = some bs → (xs ++ [y]).mapM f = some (bs ++ [b])
  | xs, bs, h => by
    rw [List.mapM_append, h]
    simp [hy]
/-- what the dict holds behind these keys -/
structure DkOk (K : PySem.W.Frag) (w : Wd) (pacc : List PV) (L : List (Addr × List Int)) : Prop where
  ks : ∃ ks, pacc.mapM toRow = some ks ∧ L.map (·.2) = dedupR ks
  rv : ∀ p ∈ L, SqT K w.hc p.1 (p.2.map V.int)
theorem DkOk.mono {K : PySem.W.Frag} {w w' : Wd} {pacc L} (h : DkOk K w pacc L) (e : ∀ a o, w.hc a = some o → w'.hc a = some o) : DkOk K w' pacc L := ⟨h.ks, fun p hp => sqT_mono e (h.rv p hp)⟩
theorem DkOk.put {K : PySem.W.Frag} {w : Wd} {pacc L} {y : PV} {b : Addr} {k : List Int} (h : DkOk K w pacc L) (e : toRow y = some k) (r : SqT K w.hc b (k.map V.int)) : DkOk K w (pacc ++ [y]) (putT L b k) := by
  obtain ⟨ks, e1, e2⟩ := h.ks
  refine ⟨⟨ks ++ [k], mapM_snoc e e1, ?_⟩, fun p hp => ?_⟩
  · rw [dedupR_snoc, ← e2]
    unfold putT addR
    split <;> simp
  · unfold putT at hp
    split at hp
    · exact h.rv p hp
    · rcases List.mem_append.mp hp with z | z
      · exact h.rv p z
      · rw [List.mem_singleton.mp z]; exact r
theorem rvs_rows {K : PySem.W.Frag} {Lc : List Addr} {Hc : Hp} : ∀ {M : List (Addr × List Int)}, (∀ p ∈ M, SqT K Hc p.1 (p.2.map V.int)) → RVs K Lc Hc ((M.map (·.2)).map rowV) (M.map fun q => V.ref q.1)
  | [], _ => rfl
  | p :: M, h => by
    refine ⟨.ref p.1, _, rfl, ⟨p.1, p.2.map V.int, rfl, h p List.mem_cons_self, ?_⟩, rvs_rows fun q hq => h q (List.mem_cons_of_mem _ hq)⟩
    have all : ∀ ns : List Int, RVs K Lc Hc (ns.map PV.int) (ns.map V.int) := fun ns => by
      induction ns with
      | nil => exact rfl
      | cons n ns ih => exact ⟨.int n, _, rfl, rfl, ih⟩
    exact all p.2
theorem toRow_rv {K : PySem.W.Frag} {Lc : List Addr} {Hc : Hp} {y : PV} {k : List Int} {u : V} (e : toRow y = some k) (r : RV K Lc Hc y u) : ∃ b, u = .ref b ∧ SqT K Hc b (k.map V.int) := by
  cases y <;> first | cases e | skip
  rename_i xs
  obtain ⟨a, vs, rfl, r1, r2⟩ := r
  have := toIs_rv (K := K) e r2
  rw [this] at r1
  exact ⟨a, rfl, r1⟩
theorem sim_sortD {P : Program} {w0 : World} {K : PySem.W.Frag} {mg : Str → Option Value} {G : Wd} {E : EK} {B : Int} {wi g tt tk tv vs fi fg ft fk fv} (hi : ISim K mg G E wi fi) (hg : GtSim K mg G g fg vs) (ht : TSim K mg G (fun _ => E0) tt ft) (hk : ESim K mg G (fun _ => E0) tk fk) (hv : ESim K mg G (fun _ => E0) tv fv) :
    NSim K mg G E (tCB (rSortD K P w0 B) (tCons (tDcG (fun D => DictTO P w0 D []) (PtT P w0 K) wi g tt tk tv vs) tNil)) (mSortD B fi fg ft fk fv vs) := fun w ρ σ Q I q => by
  refine hi w ρ σ _ I (Good.imp (Good.bind1 q) (fun xs S1 h1 => ?_) fun _ _ _ h => h)
  intro w1 J e1 s1 k1 it D hD
  subst e1
  obtain ⟨hsz, h1⟩ := good_if h1
  have k2 := laid_ok (o := DictTO P w0 D []) k1 hD
  have s2 := laid_step (o := DictTO P w0 D []) k1 hD
  have hDL : D ∉ w1.L := k1.ninL hD
  have hDw : w.H D = none := by
    cases e : w.H D with
    | none => rfl
    | some o =>
      by_cases z : D ∈ w.L
      · exact absurd (s1.pre.subset z) hDL
      · rw [s1.keep D o e z] at hD; cases hD
  have hGD : G.H D = none := by
    cases e : G.H D with
    | none => rfl
    | some o =>
      by_cases z : D ∈ G.L
      · exact absurd ((I.stp.pre.trans s1.pre).subset z) hDL
      · rw [I.stp.keep D o e z] at hDw; cases hDw
  have I1 := I.step s1 k1
  refine ⟨fun i m H => ∃ w2 pacc L, w2.H = H ∧ WStep w w2 ∧ WOk K w2 ∧ VStep w1 w2 ∧ D ∈ w2.O ∧ D ∉ w2.L ∧ w2.H D = some (DictTO P w0 D L) ∧ DkOk K w2 pacc L ∧ L.length ≤ i ∧ m + i = xs.length ∧ FI K G w2 (mWipe ρ vs) (L2.wipe σ vs) ∧
    Good (mLcGo fg ft (mKey fk fv) (mWipe ρ vs) (xs.drop i) w2.S) (fun ys S' => Good (sortV B (pacc ++ ys) S') (PostN K w Q) (ExP K mg (E σ) w)) (ExP K mg (E σ) w),
    ⟨xs.length, w1.laid D (DictTO P w0 D []), [], [], rfl, s1.tr s2 I.ok k1, k2, s2.v k1.sub, List.mem_cons_self, hDL, by show upd w1.H D _ D = _; rw [upd_same], ⟨⟨[], rfl, rfl⟩, fun _ m => nomatch m⟩, Nat.le_refl _, rfl, (I1.step s2 k2).wipe vs, Good.bind1 h1⟩, ?_⟩
  rintro i m H2 ⟨w2, pacc, L, rfl, s2', k2', v2, hO, hL, hD2, dk, hlen, em, I2, h2⟩
  by_cases hx : i < xs.length
  · have ed : xs.drop i = xs[i] :: xs.drop (i + 1) := (List.getElem_cons_drop hx).symm
    rw [ed] at h2
    obtain ⟨go, yl⟩ := (it i w2 v2 k2').1 xs[i] (List.getElem?_eq_getElem hx)
    refine .inr ⟨go, fun H' => ∃ w3 pacc L, w3.H = H' ∧ WStep w w3 ∧ WOk K w3 ∧ VStep w1 w3 ∧ D ∈ w3.O ∧ D ∉ w3.L ∧ w3.H D = some (DictTO P w0 D L) ∧ DkOk K w3 pacc L ∧ L.length ≤ i + 1 ∧ FI K G w3 (mWipe ρ vs) (L2.wipe σ vs) ∧
      Good (mLcGo fg ft (mKey fk fv) (mWipe ρ vs) (xs.drop (i + 1)) w3.S) (fun ys S' => Good (sortV B (pacc ++ ys) S') (PostN K w Q) (ExP K mg (E σ) w)) (ExP K mg (E σ) w), ?_, fun v H' hy => ?_⟩
    · rintro H' ⟨w3, p3, a3, c1, c2, c3, c4, c5, c6, c7, c8, c9, c10, c11⟩
      exact ⟨m - 1, by omega, w3, p3, a3, c1, c2, c3, c4, c5, c6, c7, c8, c9, by omega, c10, c11⟩
    · obtain ⟨w3, rfl, es, s3, k3, r3⟩ := yl v H' hy
      rw [← es] at h2
      have I3 := I2.step s3 k3
      have h3 := Good.nox (ex' := fun _ _ _ => False) (Good.bind1 h2)
      refine hg w3 _ _ xs[i] v _ I3 r3 (Good.imp h3 (fun ρ4 S4 h4 => ?_) fun _ _ _ h => h)
      intro σ4 e4 l4 f4 I4
      subst e4
      have wp := wipe_wipe σ σ4 vs (by rw [l4, wipe_length]) f4
      refine ⟨wp.1.trans wp.2, ?_⟩
      have h4' := Good.nox (ex' := ExP K mg E0 w3) (Good.bind1 h4)
      refine ht w3 ρ4 σ4 _ I4 (Good.imp h4' (fun b S5 h5 => ?_) fun _ _ _ h => h)
      intro w5 e5 s5 k5
      subst e5
      have s25 := s3.tr s5 k2' k3
      have hD5 : w5.H D = some (DictTO P w0 D L) := s25.keep D _ hD2 hL
      have hL5 : D ∉ w5.L := fun z => by
        rcases s25.lset D z with y | y
        · exact hL y
        · rw [hD2] at y; cases y
      cases b with
      | false =>
        rw [if_neg Bool.false_ne_true] at h5 ⊢
        exact ⟨w5, pacc, L, rfl, s2'.tr s25 I.ok k2', k5, v2.trans (s25.v k2'.sub), s25.omono D hO, hL5, hD5, dk.mono (s25.ext k2'.sub), by omega, I2.step s25 k5, h5⟩
      | true =>
        rw [if_pos rfl] at h5 ⊢
        have h5' := Good.bind1 (Good.nox (ex' := ExP K mg E0 w5) (Good.bind1 h5))
        refine hk w5 ρ4 σ4 _ (I4.step s5 k5) (Good.imp h5' (fun y S6 h6 => ?_) fun _ _ _ h => h)
        intro w6 u e6 s6 k6 r6
        subst e6
        have s26 := s25.tr s6 k2' k5
        refine hv w6 ρ4 σ4 _ ((I4.step s5 k5).step s6 k6) (Good.imp (Good.bind1 h6) (fun y2 S7 h7 => ?_) fun _ _ _ h => h.step s6 k5 k6)
        intro w7 u2 e7 s7 k7 r7
        subst e7
        have s27 := s26.tr s7 k2' k6
        have s67 := s6.tr s7 k5 k6
        have hD7 : w7.H D = some (DictTO P w0 D L) := s27.keep D _ hD2 hL
        have hL7 : D ∉ w7.L := fun z => by
          rcases s27.lset D z with y | y
          · exact hL y
          · rw [hD2] at y; cases y
        have hO7 := s27.omono D hO
        cases ek : toRow y with
        | none => rw [ek] at h7; exact h7.elim
        | some k =>
          rw [ek] at h7
          obtain ⟨b, rfl, rb⟩ := toRow_rv ek (r6.mono s7.pre (s7.ext k6.sub))
          have v8 : VStep w7 (w7.wr D (DictTO P w0 D (putT L b k))) := wr_v hO7
          have k8 := wr_ok (ho := DictTO P w0 D (putT L b k)) k7 hO7 hL7
          have I7 := I2.step s27 k7
          have dk7 := dk.mono (w' := w7) (s27.ext k2'.sub)
          have up : (putT L b k).length ≤ i + 1 := by
            unfold putT
            split
            · omega
            · rw [List.length_append, List.length_singleton]; omega
          refine ⟨_, ⟨L, b, k, rfl, hD7, Nat.lt_of_le_of_lt hlen (Nat.lt_of_lt_of_le hx (sizeM_le hsz)), fun p hp => hc_sqT (dk7.rv p hp), hc_sqT rb, rfl⟩, w7.wr D (DictTO P w0 D (putT L b k)), pacc ++ [y], putT L b k, rfl, wr_step (s2'.tr s27 I.ok k2') hDw, k8, (v2.trans (s27.v k2'.sub)).trans v8, hO7, hL7, by show upd w7.H D _ D = _; rw [upd_same], ?_, up, ?_, ?_⟩
          · exact (dk7.put ek rb).mono v8.ext
          · refine ⟨I7.gok, k8, wr_step I7.stp hGD, I7.len, fun j x e => ?_, fun j o e => ?_, I7.dis, fun j c fs e => ?_⟩
            · rw [wr_hc hO7]; exact I7.val j x e
            · rw [wr_hc hO7]
              obtain ⟨p, a, b, c, d, r⟩ := I7.own j o e
              have np : p ≠ D := fun z => by
                obtain ⟨p', a', b', _⟩ := (I1.wipe vs).own j o e
                rw [a'] at a
                cases a
                rw [z] at b'
                exact k1.nin hD b'
              exact ⟨p, a, b, c, d, by show SOk K w7.L w7.hc (upd w7.H D _ p) o; rw [upd_ne np]; exact r⟩
            · rw [wr_hc hO7]; exact I7.pin j c fs e
          · have h7 : Good ((mLcGo fg ft (mKey fk fv) (mWipe ρ vs) (xs.drop (i + 1)) w7.S).bind fun ys S4 => .ok (y :: ys) S4) (fun ys S' => Good (sortV B (pacc ++ ys) S') (PostN K w Q) (ExP K mg (E σ) w)) (ExP K mg (E σ) w) := h7
            refine Good.imp (Good.bind1 h7) (fun ys S8 h8 => ?_) fun _ _ _ h => h
            rw [List.append_assoc]
            exact h8
  · refine .inl ⟨(it i w2 v2 k2').2 (by omega), ?_⟩
    rw [List.drop_eq_nil_of_le (by omega)] at h2
    have h2 : Good (sortV B (pacc ++ []) w2.S) (PostN K w Q) (ExP K mg (E σ) w) := h2
    rw [List.append_nil] at h2
    obtain ⟨ks, e1, e2⟩ := dk.ks
    unfold sortV at h2
    rw [e1] at h2
    obtain ⟨hb, h2⟩ := good_if h2
    obtain ⟨b1, d, b2, b3⟩ := rowsB_ok hb
    have sub := dedupR_sub ks []
    have b4 : ∀ p ∈ L, p.2.length = d ∧ TS.Bd B p.2 := fun p hp => by
      refine b3 _ ?_
      have m : p.2 ∈ L.map (·.2) := List.mem_map.mpr ⟨p, hp, rfl⟩
      rw [e2] at m
      exact (sub.1 _ m).resolve_left fun z => nomatch z
    have hll : L.length < 64 := by
      have h := congrArg List.length e2
      rw [List.length_map] at h
      have := sub.2
      simp only [List.length_nil, Nat.zero_add] at this
      show L.length < 64
      rw [h]
      exact Nat.lt_of_le_of_lt this b1
    refine ⟨D, L, d, rfl, hD2, fun p hp => hc_sqT (dk.rv p hp), b2, hll, b4, fun M p pm pw hp => ?_⟩
    have eM : M.map (·.2) = sortR B (dedupR ks) := by
      have p1 : (M.map (·.2)).Perm (dedupR ks) := by rw [← e2]; exact pm.map _
      refine List.Perm.eq_of_pairwise (le := fun q r => TS.code B q ≤ TS.code B r) (fun a b ha hb' h3 h4 => ?_) (List.pairwise_map.mpr pw) (sortR_sorted _) (p1.trans (sortR_perm _).symm)
      have ma := sub.1 a (p1.mem_iff.mp ha) |>.resolve_left fun z => nomatch z
      have mb := sub.1 b ((sortR_perm _).mem_iff.mp hb') |>.resolve_left fun z => nomatch z
      exact code_inj ((b3 a ma).1.trans (b3 b mb).1.symm) (b3 a ma).2 (b3 b mb).2 (Int.le_antisymm h3 h4)
    rw [← eM] at h2
    have hpL : p ∉ w2.L := k2'.ninL hp
    have hpw : w.H p = none := by
      cases e : w.H p with
      | none => rfl
      | some o =>
        by_cases z : p ∈ w.L
        · exact absurd (s2'.pre.subset z) hpL
        · rw [s2'.keep p o e z] at hp; cases hp
    refine h2 (w2.laid p (.lst (M.map fun q => V.ref q.1))) p rfl (s2'.tr (laid_step k2' hp) I.ok k2') (laid_ok k2' hp) hpw List.mem_cons_self hpL ⟨_, by show upd w2.H p _ p = _; rw [upd_same], ?_⟩
    exact RVs.mono (List.prefix_refl _) (laid_ext hp) (rvs_rows fun q hq => dk.rv q (pm.mem_iff.mp hq))
/-- sorted({k: v for ..}) -/
theorem fn_sortD {X : Cx} {G : Wd} {E : EK} {B : Int} {kx vx tg iter : Expr} {ifs : List Expr} {scope : Scope} {p pos dpos : Pos} {wi g tt tk tv fi fg ft fk fv} (own : List (Str × Nat)) (hc : X.calm = true) (hN : X.N.Nodup) (hu : X.A.units < cLine) (hm : X.mg "sorted" = none) (ok : BlkOk X.N X.env.scope scope own) (hi : FIt X G E tg iter wi fi)
    (hg : ∀ (s : Shared) (H : Hp) (C : Addr) (cl : List (Str × Addr)) (fp : List Addr), FGt (X.blk s H scope (compEnvC scope cl C X.env) fp) G tg g fg (own.map (·.2)))
    (ht : ∀ (s : Shared) (H : Hp) (C : Addr) (cl : List (Str × Addr)) (fp : List Addr), FTs (X.blk s H scope (compEnvC scope cl C X.env) fp) G (fun _ => E0) ifs tt ft)
    (hk : ∀ (s : Shared) (H : Hp) (C : Addr) (cl : List (Str × Addr)) (fp : List Addr), FE (X.blk s H scope (compEnvC scope cl C X.env) fp) G (fun _ => E0) kx tk fk)
    (hv : ∀ (s : Shared) (H : Hp) (C : Addr) (cl : List (Str × Addr)) (fp : List Addr), FE (X.blk s H scope (compEnvC scope cl C X.env) fp) G (fun _ => E0) vx tv fv)
    (hs : ∀ x, foldedSetIterable iter X.env x = pure x := by intro _; rfl) (hgl : Gl X "sorted" := by rfl)
    (he : starEach [.DictComp kx vx [⟨tg, iter, ifs, 0⟩] scope dpos] X.env = (false, eval (.DictComp kx vx [⟨tg, iter, ifs, 0⟩] scope dpos) X.env) :: starEach [] X.env := by rfl) (hpl : (backTo pos (starEach [] X.env)).any (·.1) = false := by rfl) :
    FN X G E (.Call (.Name "sorted" p) [.DictComp kx vx [⟨tg, iter, ifs, 0⟩] scope dpos] [] pos) (tCB (rSortD X.K X.prog X.w B) (tCons (tDcG (fun D => DictTO X.prog X.w D []) (PtT X.prog X.w X.K) wi g tt tk tv (own.map (·.2))) tNil)) (mSortD B fi fg ft fk fv (own.map (·.2))) :=
  ⟨pe_callB (cr_sortD hc) hgl hm (by decide +kernel) (pa_cons (pe_dcG hc hN (fun H h hb => dictTO_empty h hb) (fun s H ce fp => putOk_T (X := X.blk s H scope ce fp) hu) hi.pe ok (fun s H C cl fp => (hg s H C cl fp).pe) (fun s H C cl fp => (ht s H C cl fp).pe) (fun s H C cl fp => (hk s H C cl fp).pe) (fun s H C cl fp => (hv s H C cl fp).pe) hs) pa_nil he) (by decide) (by decide) he hpl,
   sim_sortD hi.sim (hg X.s_0 X.H_0 0 [] []).sim (ht X.s_0 X.H_0 0 [] []).sim (hk X.s_0 X.H_0 0 [] []).sim (hv X.s_0 X.H_0 0 [] []).sim⟩
end Mir
set_option maxHeartbeats 4000000
/-! MirR4: an own class's __init__ for the generator; join of texts. -/
namespace Mir
open PySem PySem.Spec PyProof.Rows L2
section
variable (X : Cx) (G : Wd) (E : EK)
structure FlIn (ns : List Str) (sts : List Stmt) (ts : TS) (fs : List (Rho → Store → Res PV)) : Prop where
  pe : PSs X sts ts
  sim : FlS X.K X.mg G E ns ts fs
structure FIn (ns : List Str) (sts : List Stmt) (ts : TS) (gs : List (Rho → Store → Res Unit)) (fs : List (Rho → Store → Res PV)) : Prop where
  pe : PSs X sts ts
  sim : BdS X.K X.mg G E ns ts gs fs
end
section
variable {X : Cx} {G : Wd} {E : EK}
theorem fl_nil : FlIn X G E [] [] tNext [] := ⟨pss_nil, .nil⟩
theorem fl_cons {f : Str} {o e : Expr} {pos pos' : Pos} {te fe} {ns sts ts fs} (ho : PE X o (tVar 0)) (he : FE X G E e te fe) (hr : FlIn X G E ns sts ts fs) (hs : swapsWith e (some (.Attribute o f pos')) pos.line X.env = pure false := by rfl) :
    FlIn X G E (f :: ns) (.Assign [.Attribute o f pos'] e pos :: sts) (tSeq (sFld X.K (tVar 0) te f) ts) (fe :: fs) := ⟨pss_cons (ps_fld ho he.pe hs) hr.pe, .cons he.sim hr.sim⟩
theorem fin_fl {ns sts ts fs} (h : FlIn X G E ns sts ts fs) : FIn X G E ns sts ts [] fs := ⟨h.pe, .fl h.sim⟩
theorem fin_gd {c : Expr} {b : List Stmt} {pos : Pos} {tc fc tb fb} {ns sts ts gs fs} (hc : FT X G E c tc fc) (hb : FSs X G E b tb fb) (hr : FIn X G E ns sts ts gs fs) :
    FIn X G E ns (.If c b [] pos :: sts) (tSeq (tIfS tc tb tNext) ts) (mGuard fc fb :: gs) fs := ⟨pss_cons (ps_if hc.pe hb.pe pss_nil) hr.pe, .gd (st_guard hc.sim hb.sim) hr.sim⟩
end
theorem ok_ini {P : Program} {w : World} {K : PySem.W.Frag} {mg : Str → Option Value} {base : Heap} {qual c : Str} {st : Stmt} {f : Addr} {fd : FuncData} {N ps : List Str} {ns : List Str} {k : Nat} {gs : List (Rho → Store → Res Unit)} {fs : List (Rho → Store → Res PV)} (n : Nat)
    (F : Fun K "__init__" qual st f fd) (S : FnScope N ps (defScope st)) (T : KCls K mg c f ns)
    (body : ∀ (cdv : Value) (A : Around) (outer : List Env) (s : Shared) (H : Hp) (E : XK), A.guards = some [] → Room k (A.deeper (envOfC qual (defScope st) s.heap.objs.size f cdv)) →
      ∃ ts, ∀ G, FIn (cxOf (L2.CX P w) P w K mg base N qual (defScope st) f cdv A outer s H E) G (fun _ => E) ns (defBody st) ts gs fs)
    (hps : ps.length = n + 1 := by rfl) (hN : 0 < N.length := by decide) (hd : ns.Nodup := by decide) (hz : ns.length < 1000 := by decide) :
    FnG P w K mg base (k + 1) f fd ps (spI K mg c ns n (mInit N.length gs fs)) :=
  ok_initG F S hps hN T.C T.n hd hz fun cdv A outer s H E hg hr => by
    obtain ⟨ts, hb⟩ := body cdv A outer s H E hg hr
    exact ⟨ts, (hb ⟨[], [], fun _ => none, [], none⟩).pe, fun G => (hb G).sim⟩
/-- xs.append(e), within an except suite -/
theorem fs_appK (K : PySem.W.Frag) {X : Cx} {G : Wd} {E : EK} {i : Nat} {x : Str} {px pa pc pos e te f} (hx : PE X (.Name x px) (tVar i)) (he : FE X G E e te f) (hK : X.K = K := by rfl)
    (hbase : attributeBase (.Name x px) "append" X.env (eval (.Name x px) X.env) = eval (.Name x px) X.env := by rfl)
    (hfew : ((backTo pc (starEach [e] X.env)).all (fun x => !x.1) && (backToKw pc (keywordEach [] X.env)).all (fun x => x.1.isSome) && decide ([e].length + ([] : List Keyword).length + (if ([] : List Keyword).isEmpty then 0 else 1) < 30)) = true := by rfl)
    (hline : (pa.endLine == pc.line) = true := by rfl) (hs : starEach [e] X.env = (false, eval e X.env) :: starEach [] X.env := by rfl) (hsw : swapsWith (.Call (.Attribute (.Name x px) "append" pa) [e] [] pc) none pos.line X.env = pure false := by rfl) :
    FS X G E (.Expr (.Call (.Attribute (.Name x px) "append" pa) [e] [] pc) pos) (tDrop (tBM K "list" rAppend (tVar i) (tCons te tNil))) (mAppend i f) := by
  subst hK
  exact fs_app hx he hbase hfew hline hs hsw
/-! ### sep.join(texts) -/
def toS : PV → Option Str
  | .str x => some x
  | _ => none
theorem toSs_rv {K : PySem.W.Frag} {L Hc} : ∀ {xs : List PV} {bs : List Str} {vs : List V}, xs.mapM toS = some bs → RVs K L Hc xs vs → vs = bs.map V.str
  | [], us, vs, h, r => by
    simp at h
    subst h
    exact r
  | x :: xs, us, vs, h, r => by
    obtain ⟨v, rs, rfl, r1, r2⟩ := r
    rw [List.mapM_cons] at h
    cases x <;> first | cases h | skip
    rename_i b
    cases e : xs.mapM toS with
    | none => rw [e] at h; cases h
    | some bs =>
      rw [e] at h
      cases h
      rw [toSs_rv e r2]
      cases r1
      rfl
def joinOk (a : Str) (ys : List Str) : Bool := decide ((ys.map (·.length)).sum + ys.length * a.length ≤ 16777216)
def gJoin : PV → PV → Store → Res PV
  | .str a, .lst xs, S => match xs.mapM toS with | some ys => if joinOk a ys = true then .ok (.str (Txt.join a ys)) S else .bad | none => .bad
  | .str a, .tup xs, S => match xs.mapM toS with | some ys => if joinOk a ys = true then .ok (.str (Txt.join a ys)) S else .bad | none => .bad
  | _, _, _ => .bad
def mJoin (f g : Rho → Store → Res PV) : Rho → Store → Res PV := fun ρ S => (f ρ S).bind fun x S1 => match x with
  | .str a => (g ρ S1).bind fun y S2 => gJoin (.str a) y S2
  | _ => .bad
def rJoinT (K : PySem.W.Frag) : V → List V → Hp → VK → Prop := fun x xs H Q => ∃ a p, ∃ ys : List Str, x = .str a ∧ xs = [.ref p] ∧ (SqL K H p (ys.map V.str) ∨ SqT K H p (ys.map V.str)) ∧ (ys.map (·.length)).sum + ys.length * a.length ≤ 16777216 ∧ Q (.str (Txt.join a ys)) H
theorem r2_join {K : PySem.W.Frag} {mg : Str → Option Value} {E : XK} : R2Sim K mg E (fun x y H Q => rJoinT K x [y] H Q) gJoin := fun w x y v u Q k rx ry g => by
  cases x <;> first | exact g.elim | skip
  rename_i a
  cases rx
  cases y <;> first | exact g.elim | skip
  all_goals
    rename_i xs
    obtain ⟨p, us, rfl, r1, r2⟩ := ry
    have g : Good (match xs.mapM toS with | some ys => (if joinOk a ys = true then Res.ok (PV.str (Txt.join a ys)) w.S else .bad) | none => .bad) (PostV K w Q) (ExP K mg E w) := g
    cases e : xs.mapM toS with
    | none => rw [e] at g; exact g.elim
    | some ys =>
      rw [e] at g
      obtain ⟨c, g⟩ := good_if g
      have c : decide ((ys.map (·.length)).sum + ys.length * a.length ≤ 16777216) = true := c
      rw [toSs_rv e r2] at r1
      refine ⟨a, p, ys, rfl, rfl, ?_, of_decide_eq_true c, post_self k g rfl rfl⟩
      first
        | exact .inr (hc_sqT r1)
        | exact .inl (.inl (.inl (hc_lst r1)))
theorem fe_join (K : PySem.W.Frag) {X : Cx} {G : Wd} {E : EK} {o e : Expr} {to te fo fe} {apos pos : Pos} (ho : FE X G E o to fo) (he : FE X G E e te fe) (hK : X.K = K := by rfl) (hs : starEach [e] X.env = [(false, eval e X.env)] := by rfl) (hbase : attributeBase o "join" X.env (eval o X.env) = eval o X.env := by rfl) (hline : (apos.endLine == pos.line) = true := by rfl) :
    FE X G E (.Call (.Attribute o "join" apos) [e] [] pos) (tM1 (rJoinT K) to te) (mJoin fo fe) := by
  subst hK
  exact ⟨pe_join ho.pe he.pe hs hbase hline, fun w ρ σ Q I q => by
  refine ho.sim w ρ σ _ I (Good.imp (Good.bind1 q) (fun x S1 h1 => ?_) fun _ _ _ h => h)
  intro w1 v e1 s1 k1 r1
  subst e1
  cases x <;> first | exact h1.elim | skip
  rename_i a
  cases r1
  refine ⟨⟨a, rfl⟩, he.sim w1 ρ σ _ (I.step s1 k1) (Good.imp (Good.bind1 h1) (fun y S2 h2 => ?_) fun _ _ _ h => h.step s1 I.ok k1)⟩
  intro w2 u e2 s2 k2 r2
  subst e2
  have s12 := s1.tr s2 I.ok k1
  exact r2_join (mg := X.mg) (E := E σ) w2 (.str a) y (.str a) u Q k2 rfl r2 (Good.imp h2 (fun _ _ h => h.step s12 I.ok k2) fun _ _ _ h => h.step s12 I.ok k2)⟩
end Mir
set_option maxHeartbeats 4000000
/-! MirU3: sorted(xs), xs a list of tuples of ints. -/
namespace Mir
open PySem PySem.Spec PyProof.Rows L2
def sortL (B : Int) (xs : List PV) (S : Store) : Res SO := match xs.mapM toRow with
  | some L => if rowsB B L = true then .ok (.lst ((sortR B L).map rowV)) S else .bad
  | none => .bad
def gSortL (B : Int) : List PV → Store → Res SO
  | [.lst xs], S => sortL B xs S
  | [.cl xs], S => sortL B xs S
  | _, _ => .bad
def rSortA (K : PySem.W.Frag) (B : Int) : List V → Hp → VK → Prop := fun vs H Q => ∃ d, 1 ≤ d ∧ rSortU K d B vs H Q
theorem cr_sortA {X : Cx} {B : Int} (K : PySem.W.Frag) (h : X.K = K := by rfl) : CallR X (.builtin "sorted") (rSortA K B) := by
  subst h
  rintro pins s σ H vs us Q I r ⟨d, hd, q⟩
  exact cr_sortT hd pins s σ H vs us Q I r q
/-- refs with their ints -/
theorem rows_refs {K : PySem.W.Frag} {Lc : List Addr} {Hc : Hp} : ∀ {xs : List PV} {L : List (List Int)} {vs : List V}, xs.mapM toRow = some L → RVs K Lc Hc xs vs → ∃ zs : List (Addr × List Int), vs = zs.map (fun z => V.ref z.1) ∧ zs.map (·.2) = L ∧ ∀ z ∈ zs, SqT K Hc z.1 (z.2.map V.int)
  | [], L, vs, h, r => by
    have r : vs = [] := r
    have h : some [] = some L := h
    cases h
    subst r
    exact ⟨[], rfl, rfl, fun _ m => nomatch m⟩
  | x :: xs, L, vs, h, r => by
    obtain ⟨v, us, rfl, r1, r2⟩ := r
    rw [List.mapM_cons] at h
    cases e : toRow x with
    | none => rw [e] at h; cases h
    | some k =>
      rw [e] at h
      cases e2 : xs.mapM toRow with
      | none => rw [e2] at h; cases h
      | some L2 =>
        rw [e2] at h
        cases h
        obtain ⟨b, rfl, rb⟩ := toRow_rv e r1
        obtain ⟨zs, rfl, h2, h3⟩ := rows_refs e2 r2
        refine ⟨(b, k) :: zs, rfl, by rw [List.map_cons, h2], fun z hz => ?_⟩
        rcases List.mem_cons.mp hz with rfl | hz
        · exact rb
        · exact h3 z hz
theorem ra_sortL {K : PySem.W.Frag} {mg : Str → Option Value} {E : XK} {B : Int} : RAN K mg E (rSortA K B) (gSortL B) := fun w xs vs Q k r g => by
  have main : ∀ (ys : List PV) (a : Addr) (us : List V), SqL K w.H a us → RVs K w.L w.hc ys us → Good (sortL B ys w.S) (PostN K w Q) (ExP K mg E w) → rSortA K B [V.ref a] w.H Q := by
    intro ys a us hs r g
    unfold sortL at g
    cases e : ys.mapM toRow with
    | none => rw [e] at g; exact g.elim
    | some L =>
      rw [e] at g
      obtain ⟨hb, g⟩ := good_if g
      obtain ⟨b1, d, b2, b3⟩ := rowsB_ok hb
      obtain ⟨zs, rfl, e2, h3⟩ := rows_refs e r
      have b4 : ∀ z ∈ zs, z.2.length = d ∧ TS.Bd B z.2 := fun z hz => b3 _ (by rw [← e2]; exact List.mem_map.mpr ⟨z, hz, rfl⟩)
      have hl : zs.length < 64 := by
        rw [← e2, List.length_map] at b1
        exact b1
      refine ⟨d, b2, a, zs.map (fun z => V.ref z.1), rfl, hs, by rw [List.length_map]; exact hl, fun x hx => ?_, fun ms p pm pw hp => ?_⟩
      · obtain ⟨z, hz, rfl⟩ := List.mem_map.mp hx
        exact ⟨z.2, ⟨z.1, rfl, hc_sqT (h3 z hz)⟩, b4 z hz⟩
      · obtain ⟨M, pM, rfl⟩ := perm_map (fun z : Addr × List Int => V.ref z.1) pm zs rfl
        have eM : M.map (·.2) = sortR B L := by
          have p1 : (M.map (·.2)).Perm L := by rw [← e2]; exact pM.map _
          have pw2 : (M.map (·.2)).Pairwise (fun q r => TS.code B q ≤ TS.code B r) := by
            rw [List.pairwise_map]
            refine List.Pairwise.imp_of_mem (fun {q r} hq hr h => ?_) (List.pairwise_map.mp pw)
            exact h q.2 r.2 ⟨q.1, rfl, hc_sqT (h3 q (pM.mem_iff.mp hq))⟩ ⟨r.1, rfl, hc_sqT (h3 r (pM.mem_iff.mp hr))⟩
          refine List.Perm.eq_of_pairwise (le := fun q r => TS.code B q ≤ TS.code B r) (fun a b ha hb' h3 h4 => ?_) pw2 (sortR_sorted _) (p1.trans (sortR_perm _).symm)
          have ma := p1.mem_iff.mp ha
          have mb := (sortR_perm _).mem_iff.mp hb'
          exact code_inj ((b3 a ma).1.trans (b3 b mb).1.symm) (b3 a ma).2 (b3 b mb).2 (Int.le_antisymm h3 h4)
        rw [← eM] at g
        exact post_lst k rfl (rvs_rows fun q hq => h3 q (pM.mem_iff.mp hq)) g p hp
  match xs, g, r with
  | [.lst ys], g, r =>
    obtain ⟨v, rfl, a, us, rfl, r1, r2⟩ := vs1 r
    exact main ys a us (.inl (.inl (hc_lst r1))) r2 g
  | [.cl ys], g, r =>
    obtain ⟨v, rfl, a, us, rfl, r1, r2⟩ := vs1 r
    exact main ys a us (hc_sqL r1) r2 g
theorem fn_callB {X : Cx} {G : Wd} {E : EK} {id : String} {x : Str} {p pos e es t f r g} (hc : CallR X (.builtin id) r) (hr : ∀ σ, RAN X.K X.mg (E σ) r g) (hm : X.mg x = none) (ha : FA X G E (e :: es) t f) (hg : Gl X x := by rfl) (hv : bootBuiltins x = some (.builtin id) := by decide +kernel) (hn : x ≠ "__name__" := by decide) (hdb : (x == ("__debug__" : Str)) = false := by decide)
    (he : starEach (e :: es) X.env = (false, eval e X.env) :: starEach es X.env := by rfl) (hpl : (backTo pos (starEach es X.env)).any (·.1) = false := by rfl) : FN X G E (.Call (.Name x p) (e :: es) [] pos) (tCB r t) (mArgs g f) :=
  ⟨pe_callB hc hg hm hv ha.pe hn hdb he hpl, sim_CBN ha.sim hr⟩
end Mir
set_option maxHeartbeats 4000000
/-! MirU4: x in a list that the def is still filling. -/
namespace Mir
open PySem PySem.Spec PyProof.Rows L2
def mInOwn (neg : Bool) (i : Nat) (f : Rho → Store → Res PV) : Rho → Store → Res PV := fun ρ S => (f ρ S).bind fun x S1 => match ρ[i]? with
  | some (.own (.lst xs)) => gInD neg x (.lst xs) S1
  | _ => .bad
theorem own_data {K : PySem.W.Frag} {mg : Str → Option Value} {G : Wd} {E : XK} {neg : Bool} {i : Nat} {w w1 : Wd} {ρ : Rho} {σ : L2.St} {Q : VK} {x : PV} {v : V} (I : FI K G w1 ρ σ) (r : RV K w1.L w1.hc x v)
    (g : Good (match ρ[i]? with | some (.own (.lst xs)) => gInD neg x (.lst xs) w1.S | _ => .bad) (PostV K w Q) (ExP K mg E w)) (s : WStep w w1) :
    ∃ (p : Addr) (d : PyData) (ds : List PyData), σ[i]? = some (some (.ref p)) ∧ Dp K w1.H v d ∧ Dp K w1.H (.ref p) (.list ds) ∧ SeqAt.shaped d = true ∧ SeqAt.shaped (.list ds) = true ∧ Q (.bl (if neg then !(ds.any fun z => PyData.eqv z d) else ds.any fun z => PyData.eqv z d)) w1.H := by
  cases hi : ρ[i]? with
  | none => rw [hi] at g; exact g.elim
  | some o =>
    rw [hi] at g
    cases o <;> first | exact g.elim | skip
    rename_i o
    cases o <;> first | exact g.elim | skip
    rename_i xs
    have g : Good (gInD neg x (.lst xs) w1.S) (PostV K w Q) (ExP K mg E w) := g
    obtain ⟨p, a, b, c, d, us, r1, r2⟩ := I.own i _ hi
    unfold gInD at g
    cases e1 : toD x with
    | none => rw [e1] at g; exact g.elim
    | some dx =>
      rw [e1] at g
      cases e2 : toDs xs with
      | none =>
        simp only [toD, e2, Option.map_none] at g
        exact g.elim
      | some ds =>
        simp only [toD, e2, Option.map_some] at g
        obtain ⟨c', g⟩ := good_if g
        obtain ⟨c1, c2⟩ := He.ba c'
        exact ⟨p, dx, ds, a, toD_dp (fun a o h => (cut_some h).2) e1 r, .lst (.inl (.inl r1)) (toDs_dp (fun a o h => (cut_some h).2) e2 r2), c1, c2, g w1 _ rfl s I.ok rfl⟩
section
variable {X : Cx} {G : Wd} {E : EK}
theorem sim_inOwn {K : PySem.W.Frag} {mg : Str → Option Value} {i : Nat} {te f} (he : ESim K mg G E te f) : ESim K mg G E (tOp (rInA K) te (tVar i)) (mInOwn false i f) := fun w ρ σ Q I q => by
  refine he w ρ σ _ I (Good.imp (Good.bind1 q) (fun x S1 h1 => ?_) fun _ _ _ h => h)
  intro w1 v e1 s1 k1 r1
  subst e1
  obtain ⟨p, d, ds, a, h2, h3, h4, h5, h6⟩ := own_data (neg := false) (I.step s1 k1) r1 h1 s1
  exact ⟨.ref p, a, .inl ⟨d, ds, h2, h3, h4, h5, h6⟩⟩
theorem sim_ninOwn {K : PySem.W.Frag} {mg : Str → Option Value} {i : Nat} {te f} (he : ESim K mg G E te f) : ESim K mg G E (tOp (rNotInA K) te (tVar i)) (mInOwn true i f) := fun w ρ σ Q I q => by
  refine he w ρ σ _ I (Good.imp (Good.bind1 q) (fun x S1 h1 => ?_) fun _ _ _ h => h)
  intro w1 v e1 s1 k1 r1
  subst e1
  obtain ⟨p, d, ds, a, h2, h3, h4, h5, h6⟩ := own_data (neg := true) (I.step s1 k1) r1 h1 s1
  exact ⟨.ref p, a, .inl ⟨d, ds, h2, h3, h4, h5, h6⟩⟩
theorem fe_inOwn (K : PySem.W.Frag) {i : Nat} {a : Expr} {x : Str} {px pos : Pos} {ta fa} (hu : X.A.units + 200 < cLine) (ha : FE X G E a ta fa) (hx : PE X (.Name x px) (tVar i)) (h : X.K = K := by rfl) (hm : behindInMarks .In (.Name x px) = false := by first | exact nobehind _ (by decide) (by decide) | rfl) :
    FE X G E (.Compare a [.In] [.Name x px] pos) (tOp (rInA K) ta (tVar i)) (mInOwn false i fa) := by
  subst h
  exact ⟨pe_cmpR (kInD X.K hu) ha.pe hx hm, sim_inOwn ha.sim⟩
theorem fe_ninOwn (K : PySem.W.Frag) {i : Nat} {a : Expr} {x : Str} {px pos : Pos} {ta fa} (hu : X.A.units + 200 < cLine) (ha : FE X G E a ta fa) (hx : PE X (.Name x px) (tVar i)) (h : X.K = K := by rfl) (hm : behindInMarks .NotIn (.Name x px) = false := by first | exact nobehind _ (by decide) (by decide) | rfl) :
    FE X G E (.Compare a [.NotIn] [.Name x px] pos) (tOp (rNotInA K) ta (tVar i)) (mInOwn true i fa) := by
  subst h
  exact ⟨pe_cmpR (kNotInD X.K hu) ha.pe hx hm, sim_ninOwn ha.sim⟩
theorem ft_inOwn (K : PySem.W.Frag) {i : Nat} {a : Expr} {x : Str} {px pos : Pos} {ta fa} (hu : X.A.units + 200 < cLine) (ha : FE X G E a ta fa) (hx : PE X (.Name x px) (tVar i)) (h : X.K = K := by rfl) (hm : behindInMarks .In (.Name x px) = false := by first | exact nobehind _ (by decide) (by decide) | rfl) :
    FT X G E (.Compare a [.In] [.Name x px] pos) (tTest (tOp (rInA K) ta (tVar i))) (mB (mInOwn false i fa)) := by
  subst h
  exact ⟨pt_cmpR (kInD X.K hu) ha.pe hx hm, sim_test (sim_inOwn ha.sim)⟩
theorem ft_ninOwn (K : PySem.W.Frag) {i : Nat} {a : Expr} {x : Str} {px pos : Pos} {ta fa} (hu : X.A.units + 200 < cLine) (ha : FE X G E a ta fa) (hx : PE X (.Name x px) (tVar i)) (h : X.K = K := by rfl) (hm : behindInMarks .NotIn (.Name x px) = false := by first | exact nobehind _ (by decide) (by decide) | rfl) :
    FT X G E (.Compare a [.NotIn] [.Name x px] pos) (tTest (tOp (rNotInA K) ta (tVar i))) (mB (mInOwn true i fa)) := by
  subst h
  exact ⟨pt_cmpR (kNotInD X.K hu) ha.pe hx hm, sim_test (sim_ninOwn ha.sim)⟩
end
end Mir
set_option maxHeartbeats 4000000
/-! MirR5: calls that leave defaults out. -/
namespace Mir
open PySem PySem.Spec PyProof.Rows L2
theorem ke_callD {P : Program} {w : World} {K : PySem.W.Frag} {mg : Str → Option Value} {base : Heap} {X : Cx} {G : Wd} {E : EK} {k : Nat} {f : Addr} {fd : FuncData} {ps : List Str} {n : Nat} {m : List PV → Store → Res PV} {dps : List PV} {dvs : List V} {ds : List Value} {x : Str} {p pos e es t fa} (F : FnG P w K mg base k f fd ps (spM K mg n m)) (hg0 : X.A.guards = some []) (hr : Room k X.A) (hm : mg x = some (.ref f)) (hk : PySem.W.keepIn K (.ref f) = true)
    (hb : Binds K fd ps ds) (hd : Vals dvs ds) (hv : ∀ L Hc, RVs K L Hc dps dvs) (hx : ∀ σ, PassesAt (L2.CX P w) X σ (E σ)) (ha : FA X G E (e :: es) t fa) (c : CtxIs X P w K mg base := by exact ⟨rfl, rfl, rfl, rfl, rfl⟩) (hg : Gl X x := by rfl) (hdb : (x == ("__debug__" : Str)) = false := by decide) (he : starEach (e :: es) X.env = (false, eval e X.env) :: starEach es X.env := by rfl)
    (hpl : (backTo pos (starEach es X.env)).any (·.1) = false := by rfl) : FE X G E (.Call (.Name x p) (e :: es) [] pos) (tCallSD (spM K mg n m) dvs E t) (mCall n m dps fa) := by
  obtain ⟨rfl, rfl, rfl, rfl, rfl⟩ := c
  exact ⟨peG_call F hg0 hr hg hm hk hb hd hx ha.pe hdb he hpl, sim_call hv ha.sim⟩
end Mir
set_option maxHeartbeats 4000000
namespace K04
open PySem PySem.Spec PyProof.Rows L2 Mir
/-! ### the text -/
def topS (i : Nat) : Stmt := PySem.Challenge.pw_cellrealm_k04_six_deeds.main.body.getD i (.Pass ⟨0, 0, 0, 0⟩)
abbrev s_is_bit : Stmt := topS 11
theorem sc_is_bit : FnScope ["value"] ["value"] (defScope s_is_bit) := ⟨rfl, rfl, rfl, by decide +kernel, rfl, by decide +kernel, by decide +kernel⟩
abbrev s_is_table : Stmt := topS 12
theorem sc_is_table : FnScope ["value", "m", "worth"] ["value", "m"] (defScope s_is_table) := ⟨rfl, rfl, rfl, by decide +kernel, rfl, by decide +kernel, by decide +kernel⟩
abbrev s_number_of : Stmt := topS 13
theorem sc_number_of : FnScope ["bits", "number", "bit"] ["bits"] (defScope s_number_of) := ⟨rfl, rfl, rfl, by decide +kernel, rfl, by decide +kernel, by decide +kernel⟩
abbrev s_spelled : Stmt := topS 14
theorem sc_spelled : FnScope ["rows", "place", "row"] ["rows"] (defScope s_spelled) := ⟨rfl, rfl, rfl, by decide +kernel, rfl, by decide +kernel, by decide +kernel⟩
abbrev s_made_row : Stmt := topS 15
theorem sc_made_row : FnScope ["table", "rows", "number"] ["table", "rows"] (defScope s_made_row) := ⟨rfl, rfl, rfl, by decide +kernel, rfl, by decide +kernel, by decide +kernel⟩
abbrev s_tuples_of : Stmt := topS 16
theorem sc_tuples_of : FnScope ["rows", "m", "found", "_", "one", "row"] ["rows", "m"] (defScope s_tuples_of) := ⟨rfl, rfl, rfl, by decide +kernel, rfl, by decide +kernel, by decide +kernel⟩
abbrev s_break_in : Stmt := topS 17
theorem sc_break_in : FnScope ["relation", "table", "rows"] ["relation", "table"] (defScope s_break_in) := ⟨rfl, rfl, rfl, by decide +kernel, rfl, by decide +kernel, by decide +kernel⟩
abbrev s_break_of : Stmt := topS 18
theorem sc_break_of : FnScope ["book", "table", "number", "relation", "rows", "m"] ["book", "table"] (defScope s_break_of) := ⟨rfl, rfl, rfl, by decide +kernel, rfl, by decide +kernel, by decide +kernel⟩
abbrev s_table_of : Stmt := topS 19
theorem sc_table_of : FnScope ["word"] ["word"] (defScope s_table_of) := ⟨rfl, rfl, rfl, by decide +kernel, rfl, by decide +kernel, by decide +kernel⟩
abbrev s_kept_by : Stmt := topS 20
theorem sc_kept_by : FnScope ["book", "fixed", "words", "word"] ["book", "fixed"] (defScope s_kept_by) := ⟨rfl, rfl, rfl, by decide +kernel, rfl, by decide +kernel, by decide +kernel⟩
abbrev s_blamed : Stmt := topS 21
theorem sc_blamed : FnScope ["book", "found", "word", "blames", "number", "relation", "rows"] ["book"] (defScope s_blamed) := ⟨rfl, rfl, rfl, by decide +kernel, rfl, by decide +kernel, by decide +kernel⟩
abbrev s_widened : Stmt := topS 22
theorem sc_widened : FnScope ["table", "at"] ["table"] (defScope s_widened) := ⟨rfl, rfl, rfl, by decide +kernel, rfl, by decide +kernel, by decide +kernel⟩
abbrev s_is_below : Stmt := topS 25
theorem sc_is_below : FnScope ["value", "limit"] ["value", "limit"] (defScope s_is_below) := ⟨rfl, rfl, rfl, by decide +kernel, rfl, by decide +kernel, by decide +kernel⟩
abbrev s_is_row : Stmt := topS 26
theorem sc_is_row : FnScope ["value", "size", "one"] ["value", "size"] (defScope s_is_row) := ⟨rfl, rfl, rfl, by decide +kernel, rfl, by decide +kernel, by decide +kernel⟩
abbrev s_are_rows : Stmt := topS 27
theorem sc_are_rows : FnScope ["rows", "size", "row"] ["rows", "size"] (defScope s_are_rows) := ⟨rfl, rfl, rfl, by decide +kernel, rfl, by decide +kernel, by decide +kernel⟩
abbrev s_are_relations : Stmt := topS 31
theorem sc_are_relations : FnScope ["relations", "relation"] ["relations"] (defScope s_are_relations) := ⟨rfl, rfl, rfl, by decide +kernel, rfl, by decide +kernel, by decide +kernel⟩
abbrev s__law_draws : Stmt := topS 34
theorem sc__law_draws : FnScope ["script", "many", "rests", "draws", "k", "cell", "mixed", "at"] ["script", "many"] (defScope s__law_draws) := ⟨rfl, rfl, rfl, by decide +kernel, rfl, by decide +kernel, by decide +kernel⟩
abbrev s__law_take : Stmt := topS 35
theorem sc__law_take : FnScope ["hand", "many", "at", "draws"] ["hand", "many"] (defScope s__law_take) := ⟨rfl, rfl, rfl, by decide +kernel, rfl, by decide +kernel, by decide +kernel⟩
abbrev s__law_every : Stmt := topS 36
theorem sc__law_every : FnScope ["many", "found", "k", "longer", "row"] ["many"] (defScope s__law_every) := ⟨rfl, rfl, rfl, by decide +kernel, rfl, by decide +kernel, by decide +kernel⟩
abbrev s__law_rows : Stmt := topS 37
theorem sc__law_rows : FnScope ["hand", "size", "most", "every", "rows", "k", "row"] ["hand", "size", "most"] (defScope s__law_rows) := ⟨rfl, rfl, rfl, by decide +kernel, rfl, by decide +kernel, by decide +kernel⟩
abbrev s__law_place : Stmt := topS 38
theorem sc__law_place : FnScope ["row", "place", "value"] ["row"] (defScope s__law_place) := ⟨rfl, rfl, rfl, by decide +kernel, rfl, by decide +kernel, by decide +kernel⟩
abbrev s__law_made : Stmt := topS 39
theorem sc__law_made : FnScope ["table", "rows", "j", "row"] ["table", "rows"] (defScope s__law_made) := ⟨rfl, rfl, rfl, by decide +kernel, rfl, by decide +kernel, by decide +kernel⟩
abbrev s__law_tuples : Stmt := topS 40
theorem sc__law_tuples : FnScope ["rows", "m", "found", "k", "longer", "one", "row"] ["rows", "m"] (defScope s__law_tuples) := ⟨rfl, rfl, rfl, by decide +kernel, rfl, by decide +kernel, by decide +kernel⟩
abbrev s__law_break : Stmt := topS 41
theorem sc__law_break : FnScope ["relation", "table", "m", "rows", "one"] ["relation", "table", "m"] (defScope s__law_break) := ⟨rfl, rfl, rfl, by decide +kernel, rfl, by decide +kernel, by decide +kernel⟩
abbrev s__law_six : Stmt := topS 42
theorem sc__law_six : FnScope [] [] (defScope s__law_six) := ⟨rfl, rfl, rfl, by decide +kernel, rfl, by decide +kernel, by decide +kernel⟩
abbrev s__law_places_of : Stmt := topS 43
theorem sc__law_places_of : FnScope ["table"] ["table"] (defScope s__law_places_of) := ⟨rfl, rfl, rfl, by decide +kernel, rfl, by decide +kernel, by decide +kernel⟩
abbrev s__law_closed : Stmt := topS 45
theorem sc__law_closed : FnScope ["rows", "table", "m", "kept", "step", "more", "one", "row"] ["rows", "table"] (defScope s__law_closed) := ⟨rfl, rfl, rfl, by decide +kernel, rfl, by decide +kernel, by decide +kernel⟩
abbrev s__law_drawn_book : Stmt := topS 44
theorem sc__law_drawn_book : FnScope ["hand", "book", "k", "size", "rows"] ["hand"] (defScope s__law_drawn_book) := ⟨rfl, rfl, rfl, by decide +kernel, rfl, by decide +kernel, by decide +kernel⟩
abbrev s__law_book : Stmt := topS 46
theorem sc__law_book : FnScope ["book", "size", "rows"] ["book"] (defScope s__law_book) := ⟨rfl, rfl, rfl, by decide +kernel, rfl, by decide +kernel, by decide +kernel⟩
abbrev s__law_drawn_table : Stmt := topS 47
theorem sc__law_drawn_table : FnScope ["hand", "m", "kind", "fitting", "place", "word", "table", "row"] ["hand", "m"] (defScope s__law_drawn_table) := ⟨rfl, rfl, rfl, by decide +kernel, rfl, by decide +kernel, by decide +kernel⟩
abbrev s__law_told : Stmt := topS 48
theorem sc__law_told : FnScope ["word", "e"] ["word"] (defScope s__law_told) := ⟨rfl, rfl, rfl, by decide +kernel, rfl, by decide +kernel, by decide +kernel⟩
abbrev s__law_blamed : Stmt := topS 49
theorem sc__law_blamed : FnScope ["book", "found", "word", "table", "pairs", "r", "shown"] ["book"] (defScope s__law_blamed) := ⟨rfl, rfl, rfl, by decide +kernel, rfl, by decide +kernel, by decide +kernel⟩
abbrev s_law : Stmt := topS 50
theorem sc_law : FnScope ["script", "hand", "book", "made", "due", "words", "kept", "word", "table", "odd", "m", "k", "row"] ["script"] (defScope s_law) := ⟨rfl, rfl, rfl, by decide +kernel, rfl, by decide +kernel, by decide +kernel⟩
/-! ### the mirrors -/
def c_MOST_PLACES : PV := (.int (4))
def c_MOST_RELATIONS : PV := (.int (6))
def c_SIZES : PV := (.tup [(.int (1)), (.int (2)), (.int (4)), (.int (8)), (.int (16))])
def c_WORDS : PV := (.tup [(.str "all no"), (.str "all yes"), (.str "and"), (.str "or"), (.str "majority"), (.str "odd one")])
def c_TABLES : List (Str × PV) := [("all no", (.tup [(.int (0)), (.int (0))])), ("all yes", (.tup [(.int (1)), (.int (1))])), ("and", (.tup [(.int (0)), (.int (0)), (.int (0)), (.int (1))])), ("or", (.tup [(.int (0)), (.int (1)), (.int (1)), (.int (1))])), ("majority", (.tup [(.int (0)), (.int (0)), (.int (0)), (.int (1)), (.int (0)), (.int (1)), (.int (1)), (.int (1))])), ("odd one", (.tup [(.int (0)), (.int (1)), (.int (1)), (.int (0)), (.int (1)), (.int (0)), (.int (0)), (.int (1))]))]
def b_is_bit : Rho → Store → Res Out :=
  (mRet (mAndV (mIsi "int" (mVar 0)) (mAndV (mNotV (mIsi "bool" (mVar 0))) (mChain gLe gLe (mC (.int 0)) (mVar 0) (mC (.int 1))))))
def m_is_bit : List PV → Store → Res PV := mDef 1 b_is_bit
def b_is_table : Rho → Store → Res Out :=
  (mSeq (mIfS (mOr (mNot (mB (mIsi "tuple" (mVar 0)))) (mB (mOp (gEqD true) (mArgs gLen (mCons (mVar 0) mNil)) (mOp gIx (mC c_SIZES) (mVar 1)))))
    (mRet (mC (.bl false)))
    mSkip)
    (mSeq (mFor (mSeqOf (mVar 0)) (gNm 2)
    (mIfS (mNot (mB (mCall 1 m_is_bit [] (mCons (mVar 2) mNil))))
    (mRet (mC (.bl false)))
    mSkip))
    (mRet (mC (.bl true)))))
def m_is_table : List PV → Store → Res PV := mDef 3 b_is_table
def b_number_of : Rho → Store → Res Out :=
  (mSeq (mSet 1 (mC (.int 0)))
    (mSeq (mFor (mSeqOf (mVar 0)) (gNm 2)
    (mSet 1 (mOp gAddA (mOp gMulA (mC (.int 2)) (mVar 1)) (mVar 2))))
    (mRet (mVar 1))))
def m_number_of : List PV → Store → Res PV := mDef 3 b_number_of
def b_spelled : Rho → Store → Res Out :=
  (mRet (mArgs gTuple (mCons (mFrz (mLc (mRange gRange1 (mCons (mArgs gLen (mCons (mOp gIx (mVar 0) (mC (.int 0))) mNil)) mNil)) (gNm 1) mTrue (mCall 1 m_number_of [] (mCons (mFrz (mLc (mSeqOf (mVar 0)) (gNm 2) mTrue (mOp gIx (mVar 2) (mVar 1)) [2])) mNil)) [1])) mNil)))
def m_spelled : List PV → Store → Res PV := mDef 3 b_spelled
def b_made_row : Rho → Store → Res Out :=
  (mRet (mArgs gTuple (mCons (mFrz (mLc (mSeqOf (mCall 1 m_spelled [] (mCons (mVar 1) mNil))) (gNm 2) mTrue (mOp gIx (mVar 0) (mVar 2)) [2])) mNil)))
def m_made_row : List PV → Store → Res PV := mDef 3 b_made_row
def b_tuples_of : Rho → Store → Res Out :=
  (mSeq (mSet 2 (mFrz (mArgs gLst (mCons (mArgs gTup mNil) mNil))))
    (mSeq (mFor (mRange gRange1 (mCons (mVar 1) mNil)) (gNm 3)
    (mSet 2 (mFrz (mLc2 (mSeqOf (mVar 2)) (gNm 4) mTrue (mSeqOf (mVar 0)) (gNm 5) mTrue (mOp gAddA (mVar 4) (mArgs gTup (mCons (mVar 5) mNil))) [4, 5] [5]))))
    (mRet (mVar 2))))
def m_tuples_of : List PV → Store → Res PV := mDef 6 b_tuples_of
def b_break_in : Rho → Store → Res Out :=
  (mSeq (mFor (mSeqOf (mCall 2 m_tuples_of [] (mCons (mFldI "Relation" "rows" (mVar 0)) (mCons (mIndexT (mC c_SIZES) (mCons (mArgs gLen (mCons (mVar 1) mNil)) mNil)) mNil)))) (gNm 2)
    (mIfS (mB (mOp (gInD true) (mCall 2 m_made_row [] (mCons (mVar 1) (mCons (mVar 2) mNil))) (mFldI "Relation" "rows" (mVar 0))))
    (mRet (mVar 2))
    mSkip))
    (mRet (mC .non)))
def m_break_in : List PV → Store → Res PV := mDef 3 b_break_in
def b_break_of : Rho → Store → Res Out :=
  (mSeq (mIfS (mB (mOp (gEqD false) (mFrz (mLc (mRange gRange2 (mCons (mC (.int 1)) (mCons (mC (.int 5)) mNil))) (gNm 5) (mB (mCall 2 m_is_table [] (mCons (mVar 1) (mCons (mVar 5) mNil)))) (mVar 5) [5])) (mFrz (mArgs gLst mNil))))
    (mRaise "InvalidTable" ["value"] (mCons (mVar 1) mNil))
    mSkip)
    (mSeq (mFor (mRange gEnum (mCons (mFldI "Book" "relations" (mVar 0)) mNil)) (gUn 2 (gsCons (gNm 2) (gsCons (gNm 3) gsNil)))
    (mSeq (mSet 4 (mCall 2 m_break_in [] (mCons (mVar 3) (mCons (mVar 1) mNil))))
    (mIfS (mB (mOp gIsN (mVar 4) (mC .non)))
    (mRet (mArgs gTup (mCons (mVar 2) (mCons (mVar 4) mNil))))
    mSkip)))
    (mRet (mC .non))))
def m_break_of : List PV → Store → Res PV := mDef 6 b_break_of
def b_table_of : Rho → Store → Res Out :=
  (mSeq (mIfS (mOr (mNot (mB (mIsi "str" (mVar 0)))) (mB (mKIn true c_TABLES (mVar 0))))
    (mRaise "Undefined" ["what"] (mCons (mC (.str "word")) mNil))
    mSkip)
    (mRet (mKGet c_TABLES (mVar 0))))
def m_table_of : List PV → Store → Res PV := mDef 1 b_table_of
def b_kept_by : Rho → Store → Res Out :=
  (mSeq (mSet 2 (mC c_WORDS))
    (mSeq (mIfS (mTru (mVar 1))
    (mSet 2 (mSl gSl (mC c_WORDS) (mPart (mC (.int 2))) (fun _ S => .ok none S)))
    mSkip)
    (mRet (mArgs gTuple (mCons (mFrz (mLc (mSeqOf (mVar 2)) (gNm 3) (mB (mOp gIsA (mCall 2 m_break_of [] (mCons (mVar 0) (mCons (mKGet c_TABLES (mVar 3)) mNil))) (mC .non))) (mVar 3) [3])) mNil)))))
def m_kept_by : List PV → Store → Res PV := mDef 4 b_kept_by
def b_blamed : Rho → Store → Res Out :=
  (mSeq (mSetOwn 1 (mArgs gLst mNil))
    (mSeq (mFor (mSeqOf (mC c_WORDS)) (gNm 2)
    (mSeq (mSetOwn 3 (mArgs gLst mNil))
    (mSeq (mFor (mRange gEnum (mCons (mFldI "Book" "relations" (mVar 0)) mNil)) (gUn 2 (gsCons (gNm 4) (gsCons (gNm 5) gsNil)))
    (mSeq (mSet 6 (mCall 2 m_break_in [] (mCons (mVar 5) (mCons (mKGet c_TABLES (mVar 2)) mNil))))
    (mIfS (mB (mOp gIsN (mVar 6) (mC .non)))
    (mAppend 3 (mArgs gTup (mCons (mVar 4) (mCons (mVar 6) mNil))))
    mSkip)))
    (mFrzS 3 (mAppend 1 (mArgs gTuple (mCons (mVar 3) mNil)))))))
    (mFrzS 1 (mRet (mArgs gTuple (mCons (mVar 1) mNil))))))
def m_blamed : List PV → Store → Res PV := mDef 7 b_blamed
def b_widened : Rho → Store → Res Out :=
  (mRet (mArgs gTuple (mCons (mFrz (mLc (mRange gRange1 (mCons (mC (.int 8)) mNil)) (gNm 1) mTrue (mOp gIx (mVar 0) (mOp gFdiv (mVar 1) (mOp gFdiv (mC (.int 8)) (mArgs gLen (mCons (mVar 0) mNil))))) [1])) mNil)))
def m_widened : List PV → Store → Res PV := mDef 2 b_widened
def b_is_below : Rho → Store → Res Out :=
  (mRet (mAndV (mIsi "int" (mVar 0)) (mAndV (mNotV (mIsi "bool" (mVar 0))) (mChain gLe gLt (mC (.int 0)) (mVar 0) (mVar 1)))))
def m_is_below : List PV → Store → Res PV := mDef 2 b_is_below
def b_is_row : Rho → Store → Res Out :=
  (mSeq (mIfS (mOr (mNot (mB (mIsi "tuple" (mVar 0)))) (mB (mOp (gEqD true) (mArgs gLen (mCons (mVar 0) mNil)) (mVar 1))))
    (mRet (mC (.bl false)))
    mSkip)
    (mSeq (mFor (mSeqOf (mVar 0)) (gNm 2)
    (mIfS (mNot (mB (mCall 2 m_is_below [] (mCons (mVar 2) (mCons (mC (.int 2)) mNil)))))
    (mRet (mC (.bl false)))
    mSkip))
    (mRet (mC (.bl true)))))
def m_is_row : List PV → Store → Res PV := mDef 3 b_is_row
def b_are_rows : Rho → Store → Res Out :=
  (mSeq (mIfS (mOr (mNot (mB (mIsiT ["list", "tuple"] (mVar 0)))) (mB (mOp (gEqD false) (mArgs gLen (mCons (mVar 0) mNil)) (mC (.int 0)))))
    (mRet (mC (.bl false)))
    mSkip)
    (mSeq (mFor (mSeqOf (mVar 0)) (gNm 2)
    (mIfS (mNot (mB (mCall 2 m_is_row [] (mCons (mVar 2) (mCons (mVar 1) mNil)))))
    (mRet (mC (.bl false)))
    mSkip))
    (mRet (mC (.bl true)))))
def m_are_rows : List PV → Store → Res PV := mDef 3 b_are_rows
def gs_Relation : List (Rho → Store → Res Unit) := [(mGuard (mOr (mNot (mB (mCall 2 m_is_below [] (mCons (mVar 1) (mCons (mOp gAddA (mC c_MOST_PLACES) (mC (.int 1))) mNil))))) (mOr (mB (mOp (gEqD false) (mVar 1) (mC (.int 0)))) (mNot (mB (mCall 2 m_are_rows [] (mCons (mVar 2) (mCons (mVar 1) mNil))))))) (mRaise "InvalidRelation" ["value"] (mCons (mArgs gTup (mCons (mVar 1) (mCons (mVar 2) mNil))) mNil)))]
def fs_Relation : List (Rho → Store → Res PV) := [(mVar 1),
  (mArgs gTuple (mCons (mFrz (mSortD 1000000 (mSeqOf (mVar 2)) (gNm 3) mTrue (mVar 3) (mC (.bl true)) [3])) mNil))]
def mi_Relation : List PV → Store → Res (List PV) := mInit 4 gs_Relation fs_Relation
def b_are_relations : Rho → Store → Res Out :=
  (mSeq (mIfS (mOr (mNot (mB (mIsiT ["list", "tuple"] (mVar 0)))) (mNot (mB (mChain gLe gLe (mC (.int 1)) (mArgs gLen (mCons (mVar 0) mNil)) (mC c_MOST_RELATIONS)))))
    (mRet (mC (.bl false)))
    mSkip)
    (mSeq (mFor (mSeqOf (mVar 0)) (gNm 1)
    (mIfS (mNot (mB (mIsiC "Relation" (mVar 1))))
    (mRet (mC (.bl false)))
    mSkip))
    (mRet (mC (.bl true)))))
def m_are_relations : List PV → Store → Res PV := mDef 2 b_are_relations
def gs_Book : List (Rho → Store → Res Unit) := [(mGuard (mNot (mB (mCall 1 m_are_relations [] (mCons (mVar 1) mNil)))) (mRaise "InvalidBook" ["value"] (mCons (mVar 1) mNil)))]
def fs_Book : List (Rho → Store → Res PV) := [(mArgs gTuple (mCons (mVar 1) mNil)),
  (mArgs gTuple (mCons (mFrz (mLc (mSeqOf (mVar 1)) (gNm 2) mTrue (mArgs gTup (mCons (mFldI "Relation" "size" (mVar 2)) (mCons (mFldI "Relation" "rows" (mVar 2)) mNil))) [2])) mNil))]
def mi_Book : List PV → Store → Res (List PV) := mInit 3 gs_Book fs_Book
def b__law_draws : Rho → Store → Res Out :=
  (mSeq (mSetOwn 2 (mLc (mSeqOf (mVar 0)) (gNm 5) mTrue (mArgs gAbs (mCons (mArgs gInt (mCons (mVar 5) mNil)) mNil)) [5]))
    (mSeq (mSetOwn 3 (mArgs gLst mNil))
    (mSeq (mFor (mRange gRange1 (mCons (mVar 1) mNil)) (gNm 4)
    (mSeq (mSet 5 (mVar 4))
    (mSeq (mIfS (mB (mOp gGt (mArgs gLen (mCons (mVar 0) mNil)) (mC (.int 0))))
    (mSeq (mSet 7 (mOp gMod (mVar 4) (mArgs gLen (mCons (mVar 0) mNil))))
    (mSeq (mSet 5 (mArgs gInt (mCons (mOp gIx (mVar 0) (mVar 7)) mNil)))
    (mIfS (mAnd (mB (mOp gGeA (mVar 5) (mOp gPow (mC (.int 10)) (mC (.int 18))))) (mB (mOp gGt (mIxOwn 2 (mVar 7)) (mC (.int 0)))))
    (mSeq (mAppend 3 (mOp gMod (mArgs gInt (mCons (mIxOwn 2 (mVar 7)) mNil)) (mC (.int 1000003))))
    (mSeq (mSetIx 2 (mVar 7) (mOp gFdiv (mArgs gInt (mCons (mIxOwn 2 (mVar 7)) mNil)) (mC (.int 1000003))))
    mCnt))
    mSkip)))
    mSkip)
    (mSeq (mSet 6 (mOp gMod (mArgs gInt (mCons (mOp gAddA (mOp gAddA (mOp gMulA (mVar 5) (mC (.int 48271))) (mOp gMulA (mVar 4) (mC (.int 69621)))) (mC (.int 11))) mNil)) (mC (.int 2147483647))))
    (mSeq (mSet 6 (mOp gMod (mArgs gInt (mCons (mOp gAddA (mOp gFdiv (mOp gMulA (mVar 6) (mVar 6)) (mC (.int 4096))) (mVar 6)) mNil)) (mC (.int 2147483629))))
    (mAppend 3 (mOp gMod (mArgs gInt (mCons (mOp gAddA (mOp gFdiv (mOp gMulA (mVar 6) (mVar 6)) (mC (.int 4096))) (mOp gMulA (mVar 4) (mC (.int 7919)))) mNil)) (mC (.int 2147483629)))))))))
    (mFrzS 2 (mRetOwn 3)))))
def m__law_draws : List PV → Store → Res PV := mDef 8 b__law_draws
def b__law_take : Rho → Store → Res Out :=
  (mSeq (mSet 2 (mOp gIx (mVar 0) (mC (.int 1))))
    (mSeq (mSetIx 0 (mC (.int 1)) (mOp gAddA (mVar 2) (mC (.int 1))))
    (mSeq (mSet 3 (mOp gIx (mVar 0) (mC (.int 0))))
    (mSeq (mIfS (mB (mOp gGeA (mVar 2) (mArgs gLen (mCons (mVar 3) mNil))))
    (mRet (mC (.int 0)))
    mSkip)
    (mRet (mOp gMod (mOp gFdiv (mArgs gInt (mCons (mOp gIx (mVar 3) (mVar 2)) mNil)) (mC (.int 7))) (mVar 1)))))))
def m__law_take : List PV → Store → Res PV := mDef 4 b__law_take
def b__law_every : Rho → Store → Res Out :=
  (mSeq (mSet 1 (mFrz (mArgs gLst (mCons (mArgs gTup mNil) mNil))))
    (mSeq (mFor (mRange gRange1 (mCons (mVar 0) mNil)) (gNm 2)
    (mSeq (mSet 3 (mFrz (mArgs gLst mNil)))
    (mSeq (mFor (mSeqOf (mVar 1)) (gNm 4)
    (mSet 3 (mOp gAddA (mVar 3) (mFrz (mArgs gLst (mCons (mOp gAddA (mVar 4) (mArgs gTup (mCons (mC (.int 0)) mNil))) (mCons (mOp gAddA (mVar 4) (mArgs gTup (mCons (mC (.int 1)) mNil))) mNil)))))))
    (mSet 1 (mVar 3)))))
    (mRet (mVar 1))))
def m__law_every : List PV → Store → Res PV := mDef 5 b__law_every
def b__law_rows : Rho → Store → Res Out :=
  (mSeq (mSet 3 (mCall 1 m__law_every [] (mCons (mVar 1) mNil)))
    (mSeq (mSetOwn 4 (mArgs gLst mNil))
    (mSeq (mFor (mRange gRange1 (mCons (mOp gAddA (mC (.int 1)) (mCall 2 m__law_take [] (mCons (mVar 0) (mCons (mVar 2) mNil)))) mNil)) (gNm 5)
    (mSeq (mSet 6 (mOp gIx (mVar 3) (mCall 2 m__law_take [] (mCons (mVar 0) (mCons (mArgs gLen (mCons (mVar 3) mNil)) mNil)))))
    (mIfS (mB (mInOwn true 4 (mVar 6)))
    (mAppend 4 (mVar 6))
    mSkip)))
    (mFrzS 4 (mRet (mArgs gTuple (mCons (mFrz (mArgs (gSortL 1000000) (mCons (mVar 4) mNil))) mNil)))))))
def m__law_rows : List PV → Store → Res PV := mDef 7 b__law_rows
def b__law_place : Rho → Store → Res Out :=
  (mSeq (mSet 1 (mC (.int 0)))
    (mSeq (mFor (mSeqOf (mVar 0)) (gNm 2)
    (mSet 1 (mOp gAddA (mOp gMulA (mC (.int 2)) (mVar 1)) (mVar 2))))
    (mRet (mVar 1))))
def m__law_place : List PV → Store → Res PV := mDef 3 b__law_place
def b__law_made : Rho → Store → Res Out :=
  (mRet (mArgs gTuple (mCons (mFrz (mLc (mRange gRange1 (mCons (mArgs gLen (mCons (mOp gIx (mVar 1) (mC (.int 0))) mNil)) mNil)) (gNm 2) mTrue (mOp gIx (mVar 0) (mCall 1 m__law_place [] (mCons (mFrz (mLc (mSeqOf (mVar 1)) (gNm 3) mTrue (mOp gIx (mVar 3) (mVar 2)) [3])) mNil))) [2])) mNil)))
def m__law_made : List PV → Store → Res PV := mDef 4 b__law_made
def b__law_tuples : Rho → Store → Res Out :=
  (mSeq (mSet 2 (mFrz (mArgs gLst (mCons (mArgs gTup mNil) mNil))))
    (mSeq (mFor (mRange gRange1 (mCons (mVar 1) mNil)) (gNm 3)
    (mSeq (mSet 4 (mFrz (mArgs gLst mNil)))
    (mSeq (mFor (mSeqOf (mVar 2)) (gNm 5)
    (mSet 4 (mOp gAddA (mVar 4) (mFrz (mLc (mSeqOf (mVar 0)) (gNm 6) mTrue (mOp gAddA (mVar 5) (mArgs gTup (mCons (mVar 6) mNil))) [6])))))
    (mSet 2 (mVar 4)))))
    (mRet (mVar 2))))
def m__law_tuples : List PV → Store → Res PV := mDef 7 b__law_tuples
def b__law_break : Rho → Store → Res Out :=
  (mSeq (mSet 3 (mOp gIx (mVar 0) (mC (.int 1))))
    (mSeq (mFor (mSeqOf (mCall 2 m__law_tuples [] (mCons (mVar 3) (mCons (mVar 2) mNil)))) (gNm 4)
    (mIfS (mB (mOp (gInD true) (mCall 2 m__law_made [] (mCons (mVar 1) (mCons (mVar 4) mNil))) (mVar 3)))
    (mRet (mVar 4))
    mSkip))
    (mRet (mC .non))))
def m__law_break : List PV → Store → Res PV := mDef 5 b__law_break
def b__law_six : Rho → Store → Res Out :=
  (mRet (mFrz (mArgs gLst (mCons (mArgs gTup (mCons (mC (.str "all no")) (mCons (mArgs gTup (mCons (mC (.int 0)) (mCons (mC (.int 0)) mNil))) mNil))) (mCons (mArgs gTup (mCons (mC (.str "all yes")) (mCons (mArgs gTup (mCons (mC (.int 1)) (mCons (mC (.int 1)) mNil))) mNil))) (mCons (mArgs gTup (mCons (mC (.str "and")) (mCons (mArgs gTup (mCons (mC (.int 0)) (mCons (mC (.int 0)) (mCons (mC (.int 0)) (mCons (mC (.int 1)) mNil))))) mNil))) (mCons (mArgs gTup (mCons (mC (.str "or")) (mCons (mArgs gTup (mCons (mC (.int 0)) (mCons (mC (.int 1)) (mCons (mC (.int 1)) (mCons (mC (.int 1)) mNil))))) mNil))) (mCons (mArgs gTup (mCons (mC (.str "majority")) (mCons (mArgs gTup (mCons (mC (.int 0)) (mCons (mC (.int 0)) (mCons (mC (.int 0)) (mCons (mC (.int 1)) (mCons (mC (.int 0)) (mCons (mC (.int 1)) (mCons (mC (.int 1)) (mCons (mC (.int 1)) mNil))))))))) mNil))) (mCons (mArgs gTup (mCons (mC (.str "odd one")) (mCons (mArgs gTup (mCons (mC (.int 0)) (mCons (mC (.int 1)) (mCons (mC (.int 1)) (mCons (mC (.int 0)) (mCons (mC (.int 1)) (mCons (mC (.int 0)) (mCons (mC (.int 0)) (mCons (mC (.int 1)) mNil))))))))) mNil))) mNil)))))))))
def m__law_six : List PV → Store → Res PV := mDef 0 b__law_six
def b__law_places_of : Rho → Store → Res Out :=
  (mRet (mOp gIx (mFrz (mArgs gLst (mCons (mC (.int 1)) (mCons (mC (.int 2)) (mCons (mC (.int 3)) (mCons (mC (.int 4)) mNil)))))) (mIndex (mFrz (mArgs gLst (mCons (mC (.int 2)) (mCons (mC (.int 4)) (mCons (mC (.int 8)) (mCons (mC (.int 16)) mNil)))))) (mCons (mArgs gLen (mCons (mVar 0) mNil)) mNil))))
def m__law_places_of : List PV → Store → Res PV := mDef 1 b__law_places_of
def b__law_closed : Rho → Store → Res Out :=
  (mSeq (mSet 2 (mCall 1 m__law_places_of [] (mCons (mVar 1) mNil)))
    (mSeq (mSet 3 (mFrz (mArgs gList (mCons (mVar 0) mNil))))
    (mSeq (mFor (mRange gRange1 (mCons (mC (.int 16)) mNil)) (gNm 4)
    (mSeq (mIfS (mB (mOp gGt (mArgs gLen (mCons (mVar 3) mNil)) (mC (.int 8))))
    (mRet (mVar 0))
    mSkip)
    (mSeq (mSetOwn 5 (mArgs gLst mNil))
    (mSeq (mFor (mSeqOf (mCall 2 m__law_tuples [] (mCons (mVar 3) (mCons (mVar 2) mNil)))) (gNm 6)
    (mSeq (mSet 7 (mCall 2 m__law_made [] (mCons (mVar 1) (mCons (mVar 6) mNil))))
    (mIfS (mAnd (mB (mOp (gInD true) (mVar 7) (mVar 3))) (mB (mInOwn true 5 (mVar 7))))
    (mAppend 5 (mVar 7))
    mSkip)))
    (mFrzS 5 (mSeq (mIfS (mB (mOp (gEqD false) (mArgs gLen (mCons (mVar 5) mNil)) (mC (.int 0))))
    mBrk
    mSkip)
    (mSet 3 (mOp gAddA (mVar 3) (mVar 5)))))))))
    (mRet (mArgs gTuple (mCons (mFrz (mArgs (gSortL 1000000) (mCons (mVar 3) mNil))) mNil))))))
def m__law_closed : List PV → Store → Res PV := mDef 8 b__law_closed
def b__law_drawn_book : Rho → Store → Res Out :=
  (mSeq (mSetOwn 1 (mArgs gLst mNil))
    (mSeq (mFor (mRange gRange1 (mCons (mOp gIx (mFrz (mArgs gLst (mCons (mC (.int 1)) (mCons (mC (.int 1)) (mCons (mC (.int 1)) (mCons (mC (.int 2)) (mCons (mC (.int 2)) (mCons (mC (.int 3)) mNil)))))))) (mCall 2 m__law_take [] (mCons (mVar 0) (mCons (mC (.int 6)) mNil)))) mNil)) (gNm 2)
    (mSeq (mSet 3 (mOp gIx (mFrz (mArgs gLst (mCons (mC (.int 1)) (mCons (mC (.int 2)) (mCons (mC (.int 2)) (mCons (mC (.int 3)) (mCons (mC (.int 3)) (mCons (mC (.int 4)) mNil)))))))) (mCall 2 m__law_take [] (mCons (mVar 0) (mCons (mC (.int 6)) mNil)))))
    (mSeq (mSet 4 (mCall 3 m__law_rows [] (mCons (mVar 0) (mCons (mVar 3) (mCons (mOp gIx (mFrz (mArgs gLst (mCons (mC (.int 2)) (mCons (mC (.int 4)) (mCons (mC (.int 7)) mNil))))) (mCall 2 m__law_take [] (mCons (mVar 0) (mCons (mC (.int 3)) mNil)))) mNil)))))
    (mSeq (mIfS (mB (mOp (gEqD false) (mCall 2 m__law_take [] (mCons (mVar 0) (mCons (mC (.int 2)) mNil))) (mC (.int 0))))
    (mSet 4 (mCall 2 m__law_closed [] (mCons (mVar 4) (mCons (mOp gIx (mOp gIx (mCall 0 m__law_six [] mNil) (mCall 2 m__law_take [] (mCons (mVar 0) (mCons (mC (.int 6)) mNil)))) (mC (.int 1))) mNil))))
    mSkip)
    (mAppend 1 (mArgs gTup (mCons (mVar 3) (mCons (mVar 4) mNil))))))))
    (mRetOwn 1)))
def m__law_drawn_book : List PV → Store → Res PV := mDef 5 b__law_drawn_book
def b__law_book : Rho → Store → Res Out :=
  (mRet (mMake 1 "Book" ["relations", "plain"] mi_Book (mCons (mFrz (mLc (mSeqOf (mVar 0)) (gTupM 2 (gsCons (gNm 1) (gsCons (gNm 2) gsNil))) mTrue (mMake 2 "Relation" ["size", "rows"] mi_Relation (mCons (mVar 1) (mCons (mVar 2) mNil))) [1, 2])) mNil)))
def m__law_book : List PV → Store → Res PV := mDef 3 b__law_book
def b__law_drawn_table : Rho → Store → Res Out :=
  (mSeq (mSet 2 (mCall 2 m__law_take [] (mCons (mVar 0) (mCons (mC (.int 4)) mNil))))
    (mSeq (mSet 3 (mFrz (mLc (mSeqOf (mCall 0 m__law_six [] mNil)) (gTupM 2 (gsCons (gNm 5) (gsCons (gNm 6) gsNil))) (mB (mOp (gEqD false) (mArgs gLen (mCons (mVar 6) mNil)) (mOp gShl (mC (.int 1)) (mVar 1)))) (mVar 6) [5, 6])))
    (mSeq (mIfS (mAnd (mB (mOp (gEqD false) (mVar 2) (mC (.int 0)))) (mB (mOp gGt (mArgs gLen (mCons (mVar 3) mNil)) (mC (.int 0)))))
    (mRet (mOp gIx (mVar 3) (mCall 2 m__law_take [] (mCons (mVar 0) (mCons (mArgs gLen (mCons (mVar 3) mNil)) mNil)))))
    mSkip)
    (mSeq (mIfS (mB (mOp (gEqD false) (mVar 2) (mC (.int 1))))
    (mSeq (mSet 4 (mCall 2 m__law_take [] (mCons (mVar 0) (mCons (mVar 1) mNil))))
    (mRet (mArgs gTuple (mCons (mFrz (mLc (mSeqOf (mCall 1 m__law_every [] (mCons (mVar 1) mNil))) (gNm 7) mTrue (mArgs gInt (mCons (mOp (gEqD true) (mOp gIx (mVar 7) (mVar 4)) (mC (.int 0))) mNil)) [7])) mNil))))
    mSkip)
    (mRet (mArgs gTuple (mCons (mFrz (mLc (mSeqOf (mCall 1 m__law_every [] (mCons (mVar 1) mNil))) (gNm 7) mTrue (mCall 2 m__law_take [] (mCons (mVar 0) (mCons (mC (.int 2)) mNil))) [7])) mNil)))))))
def m__law_drawn_table : List PV → Store → Res PV := mDef 8 b__law_drawn_table
def b__law_told : Rho → Store → Res Out :=
  (mTryB 1
    (mRet (mArgs gTup (mCons (mC (.str "table")) (mCons (mCall 1 m_table_of [] (mCons (mVar 0) mNil)) mNil))))
    [([("InvalidRelation", false), ("InvalidBook", false), ("InvalidTable", false), ("Undefined", true)], (mRet (mArgs gTup (mCons (mC (.str "none")) (mCons (mFld 1 ["Undefined"] "what") (mCons (mXis 1 [("InvalidRelation", true), ("InvalidBook", true), ("InvalidTable", true), ("Undefined", true)]) mNil))))))])
def m__law_told : List PV → Store → Res PV := mDef 2 b__law_told
def b__law_blamed : Rho → Store → Res Out :=
  (mSeq (mSetOwn 1 (mArgs gLst mNil))
    (mSeq (mFor (mSeqOf (mCall 0 m__law_six [] mNil)) (gUn 2 (gsCons (gNm 2) (gsCons (gNm 3) gsNil)))
    (mSeq (mSetOwn 4 (mArgs gLst mNil))
    (mSeq (mFor (mRange gRange1 (mCons (mArgs gLen (mCons (mVar 0) mNil)) mNil)) (gNm 5)
    (mSeq (mSet 6 (mCall 3 m__law_break [] (mCons (mOp gIx (mVar 0) (mVar 5)) (mCons (mVar 3) (mCons (mCall 1 m__law_places_of [] (mCons (mVar 3) mNil)) mNil)))))
    (mIfS (mB (mOp gIsN (mVar 6) (mC .non)))
    (mAppend 4 (mArgs gTup (mCons (mVar 5) (mCons (mVar 6) mNil))))
    mSkip)))
    (mFrzS 4 (mAppend 1 (mArgs gTuple (mCons (mVar 4) mNil)))))))
    (mFrzS 1 (mRet (mArgs gTuple (mCons (mVar 1) mNil))))))
def m__law_blamed : List PV → Store → Res PV := mDef 7 b__law_blamed
def b_law : Rho → Store → Res Out :=
  (mSeq (mShare 1 (mArgs gLst (mCons (mCall 2 m__law_draws [] (mCons (mVar 0) (mCons (mC (.int 200)) mNil))) (mCons (mC (.int 0)) mNil))))
    (mSeq (mSet 2 (mCall 1 m__law_drawn_book [] (mCons (mVar 1) mNil)))
    (mSeq (mSet 3 (mCall 1 m__law_book [] (mCons (mVar 2) mNil)))
    (mSeq (mSet 4 (mCall 1 m__law_blamed [] (mCons (mVar 2) mNil)))
    (mSeq (mSet 5 (mFrz (mLc (mSeqOf (mCall 0 m__law_six [] mNil)) (gTupM 2 (gsCons (gNm 7) (gsCons (gNm 8) gsNil))) mTrue (mVar 7) [7, 8])))
    (mSeq (mSet 6 (mArgs gTuple (mCons (mFrz (mLc (mRange gRange1 (mCons (mC (.int 6)) mNil)) (gNm 11) (mB (mOp (gEqD false) (mOp gIx (mVar 4) (mVar 11)) (mArgs gTup mNil))) (mOp gIx (mVar 5) (mVar 11)) [11])) mNil)))
    (mSeq (mIfS (mOr (mB (mOp (gEqD true) (mArgs gRepr (mCons (mCall 2 m_kept_by [(.bl false)] (mCons (mVar 3) mNil)) mNil)) (mArgs gRepr (mCons (mVar 6) mNil)))) (mB (mOp (gEqD true) (mArgs gRepr (mCons (mCallK 2 m_kept_by (kbG 1 1) (mCons (mVar 3) mNil) (mCons (mC (.bl false)) mNil)) mNil)) (mArgs gRepr (mCons (mVar 6) mNil)))))
    (mRet (mC (.bl false)))
    mSkip)
    (mSeq (mIfS (mB (mOp (gEqD true) (mArgs gRepr (mCons (mCallK 2 m_kept_by (kbG 0 2) mNil (mCons (mVar 3) (mCons (mC (.bl true)) mNil))) mNil)) (mArgs gRepr (mCons (mArgs gTuple (mCons (mFrz (mLc (mSeqOf (mVar 6)) (gNm 7) (mB (mOp (gInD false) (mVar 7) (mSl gSl (mVar 5) (mPart (mC (.int 2))) (fun _ S => .ok none S)))) (mVar 7) [7])) mNil)) mNil))))
    (mRet (mC (.bl false)))
    mSkip)
    (mSeq (mIfS (mB (mOp (gEqD true) (mArgs gRepr (mCons (mCall 1 m_blamed [] (mCons (mVar 3) mNil)) mNil)) (mArgs gRepr (mCons (mVar 4) mNil))))
    (mRet (mC (.bl false)))
    mSkip)
    (mSeq (mFor (mSeqOf (mCall 0 m__law_six [] mNil)) (gUn 2 (gsCons (gNm 7) (gsCons (gNm 8) gsNil)))
    (mIfS (mB (mOp (gEqD true) (mArgs gRepr (mCons (mCall 1 m_table_of [] (mCons (mVar 7) mNil)) mNil)) (mArgs gRepr (mCons (mVar 8) mNil))))
    (mRet (mC (.bl false)))
    mSkip))
    (mSeq (mSet 9 (mOp gIx (mFrz (mArgs gLst (mCons (mC (.str "")) (mCons (mC (.str "And")) (mCons (mC (.str "and ")) (mCons (mC (.str "all")) (mCons (mC (.str "odd")) (mCons (mC (.str "no")) (mCons (mC (.str "xor")) (mCons (mC .non) (mCons (mC (.int 0)) (mCons (mArgs gTup (mCons (mC (.str "and")) mNil)) (mCons (mC (.bl true)) (mCons (mFrz (mArgs gLst mNil)) (mCons (mFrz (mArgs gLst (mCons (mC (.str "and")) mNil))) mNil))))))))))))))) (mCall 2 m__law_take [] (mCons (mVar 1) (mCons (mC (.int 13)) mNil)))))
    (mSeq (mIfS (mB (mOp (gEqD true) (mCall 1 m__law_told [] (mCons (mVar 9) mNil)) (mArgs gTup (mCons (mC (.str "none")) (mCons (mC (.str "word")) (mCons (mC (.bl true)) mNil))))))
    (mRet (mC (.bl false)))
    mSkip)
    (mSeq (mSet 10 (mOp gAddA (mC (.int 1)) (mCall 2 m__law_take [] (mCons (mVar 1) (mCons (mC (.int 3)) mNil)))))
    (mSeq (mSet 8 (mCall 2 m__law_drawn_table [] (mCons (mVar 1) (mCons (mVar 10) mNil))))
    (mSeq (mSet 4 (mArgs gTuple (mCons (mFrz (mLc (mSeqOf (mCall 1 m__law_every [] (mCons (mC (.int 3)) mNil))) (gNm 12) mTrue (mOp gIx (mVar 8) (mCall 1 m__law_place [] (mCons (mSl gSl (mVar 12) (fun _ S => .ok none S) (mPart (mVar 10))) mNil))) [12])) mNil)))
    (mRet (mAndV (mOp (gEqD false) (mArgs gRepr (mCons (mCallK 1 m_widened (kbG 0 1) mNil (mCons (mVar 8) mNil)) mNil)) (mArgs gRepr (mCons (mVar 4) mNil))) (mOp (gEqD false) (mArgs gRepr (mCons (mCallK 1 m_table_of (kbG 0 1) mNil (mCons (mC (.str "or")) mNil)) mNil)) (mArgs gRepr (mCons (mArgs gTup (mCons (mC (.int 0)) (mCons (mC (.int 1)) (mCons (mC (.int 1)) (mCons (mC (.int 1)) mNil))))) mNil))))))))))))))))))))
def m_law : List PV → Store → Res PV := mDef 13 b_law
/-! ### what the top has left -/
abbrev si_InvalidBook : Stmt := clsStmt (topS 4) 0
theorem sci_InvalidBook : FnScope ["self", "value"] ["self", "value"] (defScope si_InvalidBook) := ⟨rfl, rfl, rfl, by decide +kernel, rfl, by decide +kernel, by decide +kernel⟩
abbrev si_InvalidRelation : Stmt := clsStmt (topS 3) 0
theorem sci_InvalidRelation : FnScope ["self", "value"] ["self", "value"] (defScope si_InvalidRelation) := ⟨rfl, rfl, rfl, by decide +kernel, rfl, by decide +kernel, by decide +kernel⟩
abbrev si_InvalidTable : Stmt := clsStmt (topS 5) 0
theorem sci_InvalidTable : FnScope ["self", "value"] ["self", "value"] (defScope si_InvalidTable) := ⟨rfl, rfl, rfl, by decide +kernel, rfl, by decide +kernel, by decide +kernel⟩
abbrev si_Undefined : Stmt := clsStmt (topS 6) 0
theorem sci_Undefined : FnScope ["self", "what"] ["self", "what"] (defScope si_Undefined) := ⟨rfl, rfl, rfl, by decide +kernel, rfl, by decide +kernel, by decide +kernel⟩
abbrev si_Relation : Stmt := clsStmt (topS 28) 0
theorem sci_Relation : FnScope ["self", "size", "rows", "row"] ["self", "size", "rows"] (defScope si_Relation) := ⟨rfl, rfl, rfl, by decide +kernel, rfl, by decide +kernel, by decide +kernel⟩
abbrev si_Book : Stmt := clsStmt (topS 32) 0
theorem sci_Book : FnScope ["self", "relations", "relation"] ["self", "relations"] (defScope si_Book) := ⟨rfl, rfl, rfl, by decide +kernel, rfl, by decide +kernel, by decide +kernel⟩
structure Tx (w : World) (K : PySem.W.Frag) (mg : Str → Option Value) where
  C_InvalidBook : Addr
  I_InvalidBook : Addr
  di_InvalidBook : FuncData
  x_InvalidBook : XCls K mg "InvalidBook" C_InvalidBook I_InvalidBook ["value"]
  Fi_InvalidBook : Fun K "__init__" "InvalidBook.__init__" si_InvalidBook I_InvalidBook di_InvalidBook
  bi_InvalidBook : Binds K di_InvalidBook ["self", "value"] []
  C_InvalidRelation : Addr
  I_InvalidRelation : Addr
  di_InvalidRelation : FuncData
  x_InvalidRelation : XCls K mg "InvalidRelation" C_InvalidRelation I_InvalidRelation ["value"]
  Fi_InvalidRelation : Fun K "__init__" "InvalidRelation.__init__" si_InvalidRelation I_InvalidRelation di_InvalidRelation
  bi_InvalidRelation : Binds K di_InvalidRelation ["self", "value"] []
  C_InvalidTable : Addr
  I_InvalidTable : Addr
  di_InvalidTable : FuncData
  x_InvalidTable : XCls K mg "InvalidTable" C_InvalidTable I_InvalidTable ["value"]
  Fi_InvalidTable : Fun K "__init__" "InvalidTable.__init__" si_InvalidTable I_InvalidTable di_InvalidTable
  bi_InvalidTable : Binds K di_InvalidTable ["self", "value"] []
  C_Undefined : Addr
  I_Undefined : Addr
  di_Undefined : FuncData
  x_Undefined : XCls K mg "Undefined" C_Undefined I_Undefined ["what"]
  Fi_Undefined : Fun K "__init__" "Undefined.__init__" si_Undefined I_Undefined di_Undefined
  bi_Undefined : Binds K di_Undefined ["self", "what"] []
  I_Relation : Addr
  di_Relation : FuncData
  k_Relation : KCls K mg "Relation" I_Relation ["size", "rows"]
  Fi_Relation : Fun K "__init__" "Relation.__init__" si_Relation I_Relation di_Relation
  bi_Relation : Binds K di_Relation ["self", "size", "rows"] []
  I_Book : Addr
  di_Book : FuncData
  k_Book : KCls K mg "Book" I_Book ["relations", "plain"]
  Fi_Book : Fun K "__init__" "Book.__init__" si_Book I_Book di_Book
  bi_Book : Binds K di_Book ["self", "relations"] []
  C_CellError : Addr
  g_CellError : mg "CellError" = some (.ref C_CellError)
  em_InvalidBook_Undefined : PySem.W.exmOne K (.ref C_InvalidBook) (.ref C_Undefined) = some false
  em_InvalidRelation_Undefined : PySem.W.exmOne K (.ref C_InvalidRelation) (.ref C_Undefined) = some false
  em_InvalidTable_Undefined : PySem.W.exmOne K (.ref C_InvalidTable) (.ref C_Undefined) = some false
  em_Undefined_Undefined : PySem.W.exmOne K (.ref C_Undefined) (.ref C_Undefined) = some true
  kt_0 : PySem.W.kitOne K (.ref C_InvalidRelation) (.ref C_CellError) = some true
  kt_1 : PySem.W.kitOne K (.ref C_InvalidBook) (.ref C_CellError) = some true
  kt_2 : PySem.W.kitOne K (.ref C_InvalidTable) (.ref C_CellError) = some true
  kt_3 : PySem.W.kitOne K (.ref C_Undefined) (.ref C_CellError) = some true
  a_TABLES : Addr
  d_TABLES : CDict K w mg "TABLES" a_TABLES c_TABLES
  f_is_bit : Addr
  d_is_bit : FuncData
  F_is_bit : Fun K "is_bit" "is_bit" s_is_bit f_is_bit d_is_bit
  g_is_bit : mg "is_bit" = some (.ref f_is_bit)
  b_is_bit : Binds K d_is_bit ["value"] []
  f_is_table : Addr
  d_is_table : FuncData
  F_is_table : Fun K "is_table" "is_table" s_is_table f_is_table d_is_table
  g_is_table : mg "is_table" = some (.ref f_is_table)
  b_is_table : Binds K d_is_table ["value", "m"] []
  f_number_of : Addr
  d_number_of : FuncData
  F_number_of : Fun K "number_of" "number_of" s_number_of f_number_of d_number_of
  g_number_of : mg "number_of" = some (.ref f_number_of)
  b_number_of : Binds K d_number_of ["bits"] []
  f_spelled : Addr
  d_spelled : FuncData
  F_spelled : Fun K "spelled" "spelled" s_spelled f_spelled d_spelled
  g_spelled : mg "spelled" = some (.ref f_spelled)
  b_spelled : Binds K d_spelled ["rows"] []
  f_made_row : Addr
  d_made_row : FuncData
  F_made_row : Fun K "made_row" "made_row" s_made_row f_made_row d_made_row
  g_made_row : mg "made_row" = some (.ref f_made_row)
  b_made_row : Binds K d_made_row ["table", "rows"] []
  f_tuples_of : Addr
  d_tuples_of : FuncData
  F_tuples_of : Fun K "tuples_of" "tuples_of" s_tuples_of f_tuples_of d_tuples_of
  g_tuples_of : mg "tuples_of" = some (.ref f_tuples_of)
  b_tuples_of : Binds K d_tuples_of ["rows", "m"] []
  f_break_in : Addr
  d_break_in : FuncData
  F_break_in : Fun K "break_in" "break_in" s_break_in f_break_in d_break_in
  g_break_in : mg "break_in" = some (.ref f_break_in)
  b_break_in : Binds K d_break_in ["relation", "table"] []
  f_break_of : Addr
  d_break_of : FuncData
  F_break_of : Fun K "break_of" "break_of" s_break_of f_break_of d_break_of
  g_break_of : mg "break_of" = some (.ref f_break_of)
  b_break_of : Binds K d_break_of ["book", "table"] []
  f_table_of : Addr
  d_table_of : FuncData
  F_table_of : Fun K "table_of" "table_of" s_table_of f_table_of d_table_of
  g_table_of : mg "table_of" = some (.ref f_table_of)
  b_table_of : Binds K d_table_of ["word"] []
  f_kept_by : Addr
  d_kept_by : FuncData
  F_kept_by : Fun K "kept_by" "kept_by" s_kept_by f_kept_by d_kept_by
  g_kept_by : mg "kept_by" = some (.ref f_kept_by)
  ds_kept_by : List Value
  vd_kept_by : Vals [(.bl false)] ds_kept_by
  b_kept_by : Binds K d_kept_by ["book", "fixed"] ds_kept_by
  f_blamed : Addr
  d_blamed : FuncData
  F_blamed : Fun K "blamed" "blamed" s_blamed f_blamed d_blamed
  g_blamed : mg "blamed" = some (.ref f_blamed)
  b_blamed : Binds K d_blamed ["book"] []
  f_widened : Addr
  d_widened : FuncData
  F_widened : Fun K "widened" "widened" s_widened f_widened d_widened
  g_widened : mg "widened" = some (.ref f_widened)
  b_widened : Binds K d_widened ["table"] []
  f_is_below : Addr
  d_is_below : FuncData
  F_is_below : Fun K "is_below" "is_below" s_is_below f_is_below d_is_below
  g_is_below : mg "is_below" = some (.ref f_is_below)
  b_is_below : Binds K d_is_below ["value", "limit"] []
  f_is_row : Addr
  d_is_row : FuncData
  F_is_row : Fun K "is_row" "is_row" s_is_row f_is_row d_is_row
  g_is_row : mg "is_row" = some (.ref f_is_row)
  b_is_row : Binds K d_is_row ["value", "size"] []
  f_are_rows : Addr
  d_are_rows : FuncData
  F_are_rows : Fun K "are_rows" "are_rows" s_are_rows f_are_rows d_are_rows
  g_are_rows : mg "are_rows" = some (.ref f_are_rows)
  b_are_rows : Binds K d_are_rows ["rows", "size"] []
  f_are_relations : Addr
  d_are_relations : FuncData
  F_are_relations : Fun K "are_relations" "are_relations" s_are_relations f_are_relations d_are_relations
  g_are_relations : mg "are_relations" = some (.ref f_are_relations)
  b_are_relations : Binds K d_are_relations ["relations"] []
  f__law_draws : Addr
  d__law_draws : FuncData
  F__law_draws : Fun K "_law_draws" "_law_draws" s__law_draws f__law_draws d__law_draws
  g__law_draws : mg "_law_draws" = some (.ref f__law_draws)
  b__law_draws : Binds K d__law_draws ["script", "many"] []
  f__law_take : Addr
  d__law_take : FuncData
  F__law_take : Fun K "_law_take" "_law_take" s__law_take f__law_take d__law_take
  g__law_take : mg "_law_take" = some (.ref f__law_take)
  b__law_take : Binds K d__law_take ["hand", "many"] []
  f__law_every : Addr
  d__law_every : FuncData
  F__law_every : Fun K "_law_every" "_law_every" s__law_every f__law_every d__law_every
  g__law_every : mg "_law_every" = some (.ref f__law_every)
  b__law_every : Binds K d__law_every ["many"] []
  f__law_rows : Addr
  d__law_rows : FuncData
  F__law_rows : Fun K "_law_rows" "_law_rows" s__law_rows f__law_rows d__law_rows
  g__law_rows : mg "_law_rows" = some (.ref f__law_rows)
  b__law_rows : Binds K d__law_rows ["hand", "size", "most"] []
  f__law_place : Addr
  d__law_place : FuncData
  F__law_place : Fun K "_law_place" "_law_place" s__law_place f__law_place d__law_place
  g__law_place : mg "_law_place" = some (.ref f__law_place)
  b__law_place : Binds K d__law_place ["row"] []
  f__law_made : Addr
  d__law_made : FuncData
  F__law_made : Fun K "_law_made" "_law_made" s__law_made f__law_made d__law_made
  g__law_made : mg "_law_made" = some (.ref f__law_made)
  b__law_made : Binds K d__law_made ["table", "rows"] []
  f__law_tuples : Addr
  d__law_tuples : FuncData
  F__law_tuples : Fun K "_law_tuples" "_law_tuples" s__law_tuples f__law_tuples d__law_tuples
  g__law_tuples : mg "_law_tuples" = some (.ref f__law_tuples)
  b__law_tuples : Binds K d__law_tuples ["rows", "m"] []
  f__law_break : Addr
  d__law_break : FuncData
  F__law_break : Fun K "_law_break" "_law_break" s__law_break f__law_break d__law_break
  g__law_break : mg "_law_break" = some (.ref f__law_break)
  b__law_break : Binds K d__law_break ["relation", "table", "m"] []
  f__law_six : Addr
  d__law_six : FuncData
  F__law_six : Fun K "_law_six" "_law_six" s__law_six f__law_six d__law_six
  g__law_six : mg "_law_six" = some (.ref f__law_six)
  b__law_six : Binds K d__law_six [] []
  f__law_places_of : Addr
  d__law_places_of : FuncData
  F__law_places_of : Fun K "_law_places_of" "_law_places_of" s__law_places_of f__law_places_of d__law_places_of
  g__law_places_of : mg "_law_places_of" = some (.ref f__law_places_of)
  b__law_places_of : Binds K d__law_places_of ["table"] []
  f__law_closed : Addr
  d__law_closed : FuncData
  F__law_closed : Fun K "_law_closed" "_law_closed" s__law_closed f__law_closed d__law_closed
  g__law_closed : mg "_law_closed" = some (.ref f__law_closed)
  b__law_closed : Binds K d__law_closed ["rows", "table"] []
  f__law_drawn_book : Addr
  d__law_drawn_book : FuncData
  F__law_drawn_book : Fun K "_law_drawn_book" "_law_drawn_book" s__law_drawn_book f__law_drawn_book d__law_drawn_book
  g__law_drawn_book : mg "_law_drawn_book" = some (.ref f__law_drawn_book)
  b__law_drawn_book : Binds K d__law_drawn_book ["hand"] []
  f__law_book : Addr
  d__law_book : FuncData
  F__law_book : Fun K "_law_book" "_law_book" s__law_book f__law_book d__law_book
  g__law_book : mg "_law_book" = some (.ref f__law_book)
  b__law_book : Binds K d__law_book ["book"] []
  f__law_drawn_table : Addr
  d__law_drawn_table : FuncData
  F__law_drawn_table : Fun K "_law_drawn_table" "_law_drawn_table" s__law_drawn_table f__law_drawn_table d__law_drawn_table
  g__law_drawn_table : mg "_law_drawn_table" = some (.ref f__law_drawn_table)
  b__law_drawn_table : Binds K d__law_drawn_table ["hand", "m"] []
  f__law_told : Addr
  d__law_told : FuncData
  F__law_told : Fun K "_law_told" "_law_told" s__law_told f__law_told d__law_told
  g__law_told : mg "_law_told" = some (.ref f__law_told)
  b__law_told : Binds K d__law_told ["word"] []
  f__law_blamed : Addr
  d__law_blamed : FuncData
  F__law_blamed : Fun K "_law_blamed" "_law_blamed" s__law_blamed f__law_blamed d__law_blamed
  g__law_blamed : mg "_law_blamed" = some (.ref f__law_blamed)
  b__law_blamed : Binds K d__law_blamed ["book"] []
  f_law : Addr
  d_law : FuncData
  F_law : Fun K "law" "law" s_law f_law d_law
  g_law : mg "law" = some (.ref f_law)
  b_law : Binds K d_law ["script"] []
  kb_kept_by_0 : KBinds K d_kept_by ["book", "fixed"] ["book", "fixed"] (kbG 0 2) (kbG 0 2)
  kb_kept_by_1 : KBinds K d_kept_by ["book", "fixed"] ["fixed"] (kbG 1 1) (kbG 1 1)
  kb_table_of_0 : KBinds K d_table_of ["word"] ["word"] (kbG 0 1) (kbG 0 1)
  kb_widened_0 : KBinds K d_widened ["table"] ["table"] (kbG 0 1) (kbG 0 1)
  n_abs : mg "abs" = none
  n_bool : mg "bool" = none
  n_enumerate : mg "enumerate" = none
  n_int : mg "int" = none
  n_isinstance : mg "isinstance" = none
  n_len : mg "len" = none
  n_list : mg "list" = none
  n_range : mg "range" = none
  n_repr : mg "repr" = none
  n_sorted : mg "sorted" = none
  n_str : mg "str" = none
  n_tuple : mg "tuple" = none
  v_MOST_PLACES : V
  u_MOST_PLACES : Value
  g_MOST_PLACES : mg "MOST_PLACES" = some u_MOST_PLACES
  r_MOST_PLACES : RelV v_MOST_PLACES u_MOST_PLACES
  y_MOST_PLACES : ∀ L Hc, RV K L Hc c_MOST_PLACES v_MOST_PLACES
  v_MOST_RELATIONS : V
  u_MOST_RELATIONS : Value
  g_MOST_RELATIONS : mg "MOST_RELATIONS" = some u_MOST_RELATIONS
  r_MOST_RELATIONS : RelV v_MOST_RELATIONS u_MOST_RELATIONS
  y_MOST_RELATIONS : ∀ L Hc, RV K L Hc c_MOST_RELATIONS v_MOST_RELATIONS
  v_SIZES : V
  u_SIZES : Value
  g_SIZES : mg "SIZES" = some u_SIZES
  r_SIZES : RelV v_SIZES u_SIZES
  y_SIZES : ∀ L Hc, RV K L Hc c_SIZES v_SIZES
  v_WORDS : V
  u_WORDS : Value
  g_WORDS : mg "WORDS" = some u_WORDS
  r_WORDS : RelV v_WORDS u_WORDS
  y_WORDS : ∀ L Hc, RV K L Hc c_WORDS v_WORDS
  tx_SIZES : isK K "tuple" v_SIZES
/-! ### each def keeps to its mirror -/
section
variable {P : Program} {w : World} {K : PySem.W.Frag} {mg : Str → Option Value} {base : Heap}
theorem Tx.in_InvalidBook (T : Tx w K mg) : FnOk P w K mg base (L2.CX P w) 1 T.I_InvalidBook T.di_InvalidBook ["self", "value"] (spI1 K "value") := ok_init1 T.Fi_InvalidBook sci_InvalidBook rfl (fun _ _ _ _ => trivial) (fun _ _ _ _ _ _ => pv 0) (fun _ _ _ _ _ _ => pv 1) (fun _ => rfl)
theorem Tx.in_InvalidRelation (T : Tx w K mg) : FnOk P w K mg base (L2.CX P w) 1 T.I_InvalidRelation T.di_InvalidRelation ["self", "value"] (spI1 K "value") := ok_init1 T.Fi_InvalidRelation sci_InvalidRelation rfl (fun _ _ _ _ => trivial) (fun _ _ _ _ _ _ => pv 0) (fun _ _ _ _ _ _ => pv 1) (fun _ => rfl)
theorem Tx.in_InvalidTable (T : Tx w K mg) : FnOk P w K mg base (L2.CX P w) 1 T.I_InvalidTable T.di_InvalidTable ["self", "value"] (spI1 K "value") := ok_init1 T.Fi_InvalidTable sci_InvalidTable rfl (fun _ _ _ _ => trivial) (fun _ _ _ _ _ _ => pv 0) (fun _ _ _ _ _ _ => pv 1) (fun _ => rfl)
theorem Tx.in_Undefined (T : Tx w K mg) : FnOk P w K mg base (L2.CX P w) 1 T.I_Undefined T.di_Undefined ["self", "what"] (spI1 K "what") := ok_init1 T.Fi_Undefined sci_Undefined rfl (fun _ _ _ _ => trivial) (fun _ _ _ _ _ _ => pv 0) (fun _ _ _ _ _ _ => pv 1) (fun _ => rfl)
theorem Tx.ok_is_bit (T : Tx w K mg) : FnG P w K mg base 1 T.f_is_bit T.d_is_bit ["value"] (spM K mg 1 m_is_bit) := by
  refine ok_def T.F_is_bit sc_is_bit fun cdv A outer s H E hgd hr => ?_
  have tk := takes_def (P := P) (w := w) (K := K) (mg := mg) (base := base) (N := ["value"]) (qual := "is_bit") (sc := defScope s_is_bit) (f := T.f_is_bit) (cd := cdv) (A := A) (outer := outer) (s := s) (H := H) (E := E)
  have hx := passAll (passes_call (E := E) tk (fun _ _ _ _ h => h))
  have hu := hu_of2 hr
  exact ⟨_, fun G => (fss_one (fs_ret (fe_and (ke_isi K (T := "int") T.n_isinstance T.n_int (fe_var (pv 0))) (fe_and (fe_not (ke_isi K (T := "bool") T.n_isinstance T.n_bool (fe_var (pv 0)))) (fe_one (fe_chain op_le op_le (fun _ => r2_le) (fun _ => r2_le) fe_int (fe_var (pv 0)) fe_int))))))⟩
theorem Tx.ok_is_table (T : Tx w K mg) : FnG P w K mg base 2 T.f_is_table T.d_is_table ["value", "m"] (spM K mg 2 m_is_table) := by
  refine ok_def T.F_is_table sc_is_table fun cdv A outer s H E hgd hr => ?_
  have tk := takes_def (P := P) (w := w) (K := K) (mg := mg) (base := base) (N := ["value", "m", "worth"]) (qual := "is_table") (sc := defScope s_is_table) (f := T.f_is_table) (cd := cdv) (A := A) (outer := outer) (s := s) (H := H) (E := E)
  have hx := passAll (passes_call (E := E) tk (fun _ _ _ _ h => h))
  have hu := hu_of2 hr
  exact ⟨_, fun G => (fss_cons (fs_if (FT.ofW (fw_or (ft_not (ft_val (ke_isi K (T := "tuple") T.n_isinstance T.n_tuple (fe_var (pv 0))))) (fw_or1 (ft_cmp (kNeD K hu) (fun _ => r2_neD) (fe_callB (kLen K) (fun _ => ra_len) T.n_len (fa_cons (fe_var (pv 0)) fa_nil)) (fe_ix (kIx K) (fun _ => r2_ix) (fe_glob (by rfl) T.g_SIZES T.r_SIZES T.y_SIZES) (fe_var (pv 1)))))))
    (fss_one (fs_ret fe_bl))
    fss_nil)
    (fss_cons (fs_forV own_def rfl (it_seq K (fe_var (pv 0))) (fg_name (pg_name (i := 2) sc_is_table.nd rfl (by first | exact .inl rfl | exact .inr rfl)))
    (fss_one (fs_if (ft_not (ft_val (ke_call (T.ok_is_bit (P := P) (base := base)) hgd (hr.mono (by omega)) T.g_is_bit T.F_is_bit.kp T.b_is_bit hx (fa_cons (fe_var (pv 2)) fa_nil))))
    (fss_one (fs_ret fe_bl))
    fss_nil)))
    (fss_one (fs_ret fe_bl))))⟩
theorem Tx.ok_number_of (T : Tx w K mg) : FnG P w K mg base 1 T.f_number_of T.d_number_of ["bits"] (spM K mg 1 m_number_of) := by
  refine ok_def T.F_number_of sc_number_of fun cdv A outer s H E hgd hr => ?_
  have tk := takes_def (P := P) (w := w) (K := K) (mg := mg) (base := base) (N := ["bits", "number", "bit"]) (qual := "number_of") (sc := defScope s_number_of) (f := T.f_number_of) (cd := cdv) (A := A) (outer := outer) (s := s) (H := H) (E := E)
  have hx := passAll (passes_call (E := E) tk (fun _ _ _ _ h => h))
  have hu := hu_of2 hr
  exact ⟨_, fun G => (fss_cons (fs_setV (i := 1) sc_number_of.nd rfl (by first | exact .inl rfl | exact .inr rfl) fe_int)
    (fss_cons (fs_forV own_def rfl (it_seq K (fe_var (pv 0))) (fg_name (pg_name (i := 2) sc_number_of.nd rfl (by first | exact .inl rfl | exact .inr rfl)))
    (fss_one (fs_setV (i := 1) sc_number_of.nd rfl (by first | exact .inl rfl | exact .inr rfl) (fe_op (kAdd K) (fun _ => r2_addA) (fe_op (kMul K) (fun _ => r2_mulA) fe_int (fe_var (pv 1))) (fe_var (pv 2))))))
    (fss_one (fs_ret (fe_var (pv 1))))))⟩
theorem Tx.ok_spelled (T : Tx w K mg) : FnG P w K mg base 2 T.f_spelled T.d_spelled ["rows"] (spM K mg 1 m_spelled) := by
  refine ok_def T.F_spelled sc_spelled fun cdv A outer s H E hgd hr => ?_
  have tk := takes_def (P := P) (w := w) (K := K) (mg := mg) (base := base) (N := ["rows", "place", "row"]) (qual := "spelled") (sc := defScope s_spelled) (f := T.f_spelled) (cd := cdv) (A := A) (outer := outer) (s := s) (H := H) (E := E)
  have hx := passAll (passes_call (E := E) tk (fun _ _ _ _ h => h))
  have hu := hu_of2 hr
  exact ⟨_, fun G => (fss_one (fs_ret (fe_callTy (kTuple K) (fun _ => ra_tuple) T.n_tuple (fa_cons (FN.fe (fn_lc [("place", 1)] rfl sc_spelled.nd (blkOk_by (by kernel_rfl)) (fit_range1 T.n_range (fa_cons (fe_callB (kLen K) (fun _ => ra_len) T.n_len (fa_cons (fe_ix (kIx K) (fun _ => r2_ix) (fe_var (pv 0)) fe_int) fa_nil)) fa_nil)) (fun _ _ _ _ _ => (gt_name (pg_name (i := 1) sc_spelled.nd rfl (by first | exact .inl rfl | exact .inr rfl)))) (fun _ _ _ _ _ => fts_nil) (fun _ _ _ _ _ => (ke_call (T.ok_number_of (P := P) (base := base)) hgd (hr.mono (by omega)) T.g_number_of T.F_number_of.kp T.b_number_of (passAll passL) (fa_cons (FN.fe (fn_lc [("row", 2)] rfl sc_spelled.nd (blkOk_by (by kernel_rfl)) (it_seq K (fe_var (pv 0))) (fun _ _ _ _ _ => (gt_name (pg_name (i := 2) sc_spelled.nd rfl (by first | exact .inl rfl | exact .inr rfl)))) (fun _ _ _ _ _ => fts_nil) (fun _ _ _ _ _ => (fe_ix (kIx K) (fun _ => r2_ix) (fe_var (pv 2)) (fe_var (pv 1)))))) fa_nil))))) fa_nil))))⟩
theorem Tx.ok_made_row (T : Tx w K mg) : FnG P w K mg base 3 T.f_made_row T.d_made_row ["table", "rows"] (spM K mg 2 m_made_row) := by
  refine ok_def T.F_made_row sc_made_row fun cdv A outer s H E hgd hr => ?_
  have tk := takes_def (P := P) (w := w) (K := K) (mg := mg) (base := base) (N := ["table", "rows", "number"]) (qual := "made_row") (sc := defScope s_made_row) (f := T.f_made_row) (cd := cdv) (A := A) (outer := outer) (s := s) (H := H) (E := E)
  have hx := passAll (passes_call (E := E) tk (fun _ _ _ _ h => h))
  have hu := hu_of2 hr
  exact ⟨_, fun G => (fss_one (fs_ret (fe_callTy (kTuple K) (fun _ => ra_tuple) T.n_tuple (fa_cons (FN.fe (fn_lc [("number", 2)] rfl sc_made_row.nd (blkOk_by (by kernel_rfl)) (it_seq K (ke_call (T.ok_spelled (P := P) (base := base)) hgd (hr.mono (by omega)) T.g_spelled T.F_spelled.kp T.b_spelled hx (fa_cons (fe_var (pv 1)) fa_nil))) (fun _ _ _ _ _ => (gt_name (pg_name (i := 2) sc_made_row.nd rfl (by first | exact .inl rfl | exact .inr rfl)))) (fun _ _ _ _ _ => fts_nil) (fun _ _ _ _ _ => (fe_ix (kIx K) (fun _ => r2_ix) (fe_var (pv 0)) (fe_var (pv 2)))))) fa_nil))))⟩
theorem Tx.ok_tuples_of (T : Tx w K mg) : FnG P w K mg base 1 T.f_tuples_of T.d_tuples_of ["rows", "m"] (spM K mg 2 m_tuples_of) := by
  refine ok_def T.F_tuples_of sc_tuples_of fun cdv A outer s H E hgd hr => ?_
  have tk := takes_def (P := P) (w := w) (K := K) (mg := mg) (base := base) (N := ["rows", "m", "found", "_", "one", "row"]) (qual := "tuples_of") (sc := defScope s_tuples_of) (f := T.f_tuples_of) (cd := cdv) (A := A) (outer := outer) (s := s) (H := H) (E := E)
  have hx := passAll (passes_call (E := E) tk (fun _ _ _ _ h => h))
  have hu := hu_of2 hr
  exact ⟨_, fun G => (fss_cons (fs_setV (i := 2) sc_tuples_of.nd rfl (by first | exact .inl rfl | exact .inr rfl) (FN.fe (fn_lst (fa_cons (fe_tup fa_nil) fa_nil))))
    (fss_cons (fs_forV own_def rfl (fit_range1 T.n_range (fa_cons (fe_var (pv 1)) fa_nil)) (fg_name (pg_name (i := 3) sc_tuples_of.nd rfl (by first | exact .inl rfl | exact .inr rfl)))
    (fss_one (FLcS.val (fs_lc2 2 [("one", 4), ("row", 5)] [5] rfl sc_tuples_of.nd rfl (by rfl) (sw_true rfl (by rfl) rfl (by kernel_rfl)) (blkOk_by (by kernel_rfl)) (by decide) (it_seq K (fe_var (pv 2))) noOwn_nm (fun _ _ _ _ _ => (gt_name (pg_name (i := 4) sc_tuples_of.nd rfl (by first | exact .inl rfl | exact .inr rfl)))) (fun _ _ _ _ _ => fts_nil) (fun _ _ _ _ _ => (it_seq K (fe_var (pv 0)))) (fun _ _ _ _ _ => (gt_name (pg_name (i := 5) sc_tuples_of.nd rfl (by first | exact .inl rfl | exact .inr rfl)))) (fun _ _ _ _ _ => fts_nil) (fun _ _ _ _ _ => (fe_op (kAdd K) (fun _ => r2_addA) (fe_var (pv 4)) (fe_tup (fa_cons (fe_var (pv 5)) fa_nil))))))))
    (fss_one (fs_ret (fe_var (pv 2))))))⟩
theorem Tx.ok_break_in (T : Tx w K mg) : FnG P w K mg base 4 T.f_break_in T.d_break_in ["relation", "table"] (spM K mg 2 m_break_in) := by
  refine ok_def T.F_break_in sc_break_in fun cdv A outer s H E hgd hr => ?_
  have tk := takes_def (P := P) (w := w) (K := K) (mg := mg) (base := base) (N := ["relation", "table", "rows"]) (qual := "break_in") (sc := defScope s_break_in) (f := T.f_break_in) (cd := cdv) (A := A) (outer := outer) (s := s) (H := H) (E := E)
  have hx := passAll (passes_call (E := E) tk (fun _ _ _ _ h => h))
  have hu := hu_of2 hr
  exact ⟨_, fun G => (fss_cons (fs_forV own_def rfl (it_seq K (ke_call (T.ok_tuples_of (P := P) (base := base)) hgd (hr.mono (by omega)) T.g_tuples_of T.F_tuples_of.kp T.b_tuples_of hx (fa_cons (fe_fldI T.k_Relation.C (T.k_Relation.n _ (by simp)) (fe_var (pv 0))) (fa_cons (fe_indexT K (by rfl) T.g_SIZES T.r_SIZES T.y_SIZES T.tx_SIZES (fa_cons (fe_callB (kLen K) (fun _ => ra_len) T.n_len (fa_cons (fe_var (pv 1)) fa_nil)) fa_nil)) fa_nil)))) (fg_name (pg_name (i := 2) sc_break_in.nd rfl (by first | exact .inl rfl | exact .inr rfl)))
    (fss_one (fs_if (ft_cmp (kNotInD K hu) (fun _ => r2_notInA) (ke_call (T.ok_made_row (P := P) (base := base)) hgd (hr.mono (by omega)) T.g_made_row T.F_made_row.kp T.b_made_row hx (fa_cons (fe_var (pv 1)) (fa_cons (fe_var (pv 2)) fa_nil))) (fe_fldI T.k_Relation.C (T.k_Relation.n _ (by simp)) (fe_var (pv 0))))
    (fss_one (fs_ret (fe_var (pv 2))))
    fss_nil)))
    (fss_one (fs_ret fe_non)))⟩
theorem Tx.ok_break_of (T : Tx w K mg) : FnG P w K mg base 5 T.f_break_of T.d_break_of ["book", "table"] (spM K mg 2 m_break_of) := by
  refine ok_def T.F_break_of sc_break_of fun cdv A outer s H E hgd hr => ?_
  have tk := takes_def (P := P) (w := w) (K := K) (mg := mg) (base := base) (N := ["book", "table", "number", "relation", "rows", "m"]) (qual := "break_of") (sc := defScope s_break_of) (f := T.f_break_of) (cd := cdv) (A := A) (outer := outer) (s := s) (H := H) (E := E)
  have hx := passAll (passes_call (E := E) tk (fun _ _ _ _ h => h))
  have hu := hu_of2 hr
  exact ⟨_, fun G => (fss_cons (fs_if (ft_cmp (kEqD K hu) (fun _ => r2_eqD) (FN.fe (fn_lc [("m", 5)] rfl sc_break_of.nd (blkOk_by (by kernel_rfl)) (fit_range2 T.n_range (fa_cons fe_int (fa_cons fe_int fa_nil))) (fun _ _ _ _ _ => (gt_name (pg_name (i := 5) sc_break_of.nd rfl (by first | exact .inl rfl | exact .inr rfl)))) (fun _ _ _ _ _ => (fts_one (ft_val (ke_call (T.ok_is_table (P := P) (base := base)) hgd (hr.mono (by omega)) T.g_is_table T.F_is_table.kp T.b_is_table (passAll passL) (fa_cons (fe_var (pv 1)) (fa_cons (fe_var (pv 5)) fa_nil)))))) (fun _ _ _ _ _ => (fe_var (pv 5))))) (FN.fe (fn_lst fa_nil)))
    (fss_one (fs_raise1 T.x_InvalidTable (T.in_InvalidTable (P := P) (w := w) (base := base)) (hr.mono (by omega)) T.bi_InvalidTable rfl tk (fa_cons (fe_var (pv 1)) fa_nil)))
    fss_nil)
    (fss_cons (fs_forV own_def rfl (fit_enum K T.n_enumerate (fa_cons (fe_fldI T.k_Book.C (T.k_Book.n _ (by simp)) (fe_var (pv 0))) fa_nil)) (gk_un K (fgs_cons (fg_name (pg_name (i := 2) sc_break_of.nd rfl (by first | exact .inl rfl | exact .inr rfl))) (fgs_cons (fg_name (pg_name (i := 3) sc_break_of.nd rfl (by first | exact .inl rfl | exact .inr rfl))) fgs_nil (pgs_cons (pg_name (i := 3) sc_break_of.nd rfl (by first | exact .inl rfl | exact .inr rfl)) pgs_nil)) (pgs_cons (pg_name (i := 2) sc_break_of.nd rfl (by first | exact .inl rfl | exact .inr rfl)) (pgs_cons (pg_name (i := 3) sc_break_of.nd rfl (by first | exact .inl rfl | exact .inr rfl)) pgs_nil))) (pg_tup rfl (pgs_cons (pg_name (i := 2) sc_break_of.nd rfl (by first | exact .inl rfl | exact .inr rfl)) (pgs_cons (pg_name (i := 3) sc_break_of.nd rfl (by first | exact .inl rfl | exact .inr rfl)) pgs_nil))) (pg_lst rfl (pgs_cons (pg_name (i := 2) sc_break_of.nd rfl (by first | exact .inl rfl | exact .inr rfl)) (pgs_cons (pg_name (i := 3) sc_break_of.nd rfl (by first | exact .inl rfl | exact .inr rfl)) pgs_nil))))
    (fss_cons (fs_setV (i := 4) sc_break_of.nd rfl (by first | exact .inl rfl | exact .inr rfl) (ke_call (T.ok_break_in (P := P) (base := base)) hgd (hr.mono (by omega)) T.g_break_in T.F_break_in.kp T.b_break_in hx (fa_cons (fe_var (pv 3)) (fa_cons (fe_var (pv 1)) fa_nil))))
    (fss_one (fs_if (ft_cmp op_isN2 (fun _ => r2_isN2) (fe_var (pv 4)) fe_non)
    (fss_one (fs_ret (fe_tup (fa_cons (fe_var (pv 2)) (fa_cons (fe_var (pv 4)) fa_nil)))))
    fss_nil))))
    (fss_one (fs_ret fe_non))))⟩
theorem Tx.ok_table_of (T : Tx w K mg) : FnG P w K mg base 3 T.f_table_of T.d_table_of ["word"] (spM K mg 1 m_table_of) := by
  refine ok_def T.F_table_of sc_table_of fun cdv A outer s H E hgd hr => ?_
  have tk := takes_def (P := P) (w := w) (K := K) (mg := mg) (base := base) (N := ["word"]) (qual := "table_of") (sc := defScope s_table_of) (f := T.f_table_of) (cd := cdv) (A := A) (outer := outer) (s := s) (H := H) (E := E)
  have hx := passAll (passes_call (E := E) tk (fun _ _ _ _ h => h))
  have hu := hu_of2 hr
  exact ⟨_, fun G => (fss_cons (fs_if (FT.ofW (fw_or (ft_not (ft_val (ke_isi K (T := "str") T.n_isinstance T.n_str (fe_var (pv 0))))) (fw_or1 (ft_knot K w T.d_TABLES (fe_var (pv 0))))))
    (fss_one (fs_raise1 T.x_Undefined (T.in_Undefined (P := P) (w := w) (base := base)) (hr.mono (by omega)) T.bi_Undefined rfl tk (fa_cons fe_str fa_nil)))
    fss_nil)
    (fss_one (fs_ret (fe_kget K w T.d_TABLES (fe_var (pv 0))))))⟩
theorem Tx.ok_kept_by (T : Tx w K mg) : FnG P w K mg base 6 T.f_kept_by T.d_kept_by ["book", "fixed"] (spM K mg 2 m_kept_by) := by
  refine ok_def T.F_kept_by sc_kept_by fun cdv A outer s H E hgd hr => ?_
  have tk := takes_def (P := P) (w := w) (K := K) (mg := mg) (base := base) (N := ["book", "fixed", "words", "word"]) (qual := "kept_by") (sc := defScope s_kept_by) (f := T.f_kept_by) (cd := cdv) (A := A) (outer := outer) (s := s) (H := H) (E := E)
  have hx := passAll (passes_call (E := E) tk (fun _ _ _ _ h => h))
  have hu := hu_of2 hr
  exact ⟨_, fun G => (fss_cons (fs_setV (i := 2) sc_kept_by.nd rfl (by first | exact .inl rfl | exact .inr rfl) (fe_glob (by rfl) T.g_WORDS T.r_WORDS T.y_WORDS))
    (fss_cons (fs_if (ft_tru K (fe_var (pv 1)))
    (fss_one (fs_setV (i := 2) sc_kept_by.nd rfl (by first | exact .inl rfl | exact .inr rfl) (fe_slice (kSl K) (fun _ => rsl) (fe_glob (by rfl) T.g_WORDS T.r_WORDS T.y_WORDS) (fo_some fe_int) fo_none)))
    fss_nil)
    (fss_one (fs_ret (fe_callTy (kTuple K) (fun _ => ra_tuple) T.n_tuple (fa_cons (FN.fe (fn_lc [("word", 3)] rfl sc_kept_by.nd (blkOk_by (by kernel_rfl)) (it_seq K (fe_var (pv 2))) (fun _ _ _ _ _ => (gt_name (pg_name (i := 3) sc_kept_by.nd rfl (by first | exact .inl rfl | exact .inr rfl)))) (fun _ _ _ _ _ => (fts_one (ft_cmp op_isA (fun _ => r2_isA) (ke_call (T.ok_break_of (P := P) (base := base)) hgd (hr.mono (by omega)) T.g_break_of T.F_break_of.kp T.b_break_of (passAll passL) (fa_cons (fe_var (pv 0)) (fa_cons (fe_kget K w T.d_TABLES (fe_var (pv 3))) fa_nil))) fe_non))) (fun _ _ _ _ _ => (fe_var (pv 3))))) fa_nil))))))⟩
theorem Tx.ok_blamed (T : Tx w K mg) : FnG P w K mg base 5 T.f_blamed T.d_blamed ["book"] (spM K mg 1 m_blamed) := by
  refine ok_def T.F_blamed sc_blamed fun cdv A outer s H E hgd hr => ?_
  have tk := takes_def (P := P) (w := w) (K := K) (mg := mg) (base := base) (N := ["book", "found", "word", "blames", "number", "relation", "rows"]) (qual := "blamed") (sc := defScope s_blamed) (f := T.f_blamed) (cd := cdv) (A := A) (outer := outer) (s := s) (H := H) (E := E)
  have hx := passAll (passes_call (E := E) tk (fun _ _ _ _ h => h))
  have hu := hu_of2 hr
  exact ⟨_, fun G => (fss_cons (fs_setO (i := 1) sc_blamed.nd rfl (by first | exact .inl rfl | exact .inr rfl) (fn_lst fa_nil))
    (fss_cons (fs_forV own_def rfl (it_seq K (fe_glob (by rfl) T.g_WORDS T.r_WORDS T.y_WORDS)) (fg_name (pg_name (i := 2) sc_blamed.nd rfl (by first | exact .inl rfl | exact .inr rfl)))
    (fss_cons (fs_setO (i := 3) sc_blamed.nd rfl (by first | exact .inl rfl | exact .inr rfl) (fn_lst fa_nil))
    (fss_cons (fs_forV own_def rfl (fit_enum K T.n_enumerate (fa_cons (fe_fldI T.k_Book.C (T.k_Book.n _ (by simp)) (fe_var (pv 0))) fa_nil)) (gk_un K (fgs_cons (fg_name (pg_name (i := 4) sc_blamed.nd rfl (by first | exact .inl rfl | exact .inr rfl))) (fgs_cons (fg_name (pg_name (i := 5) sc_blamed.nd rfl (by first | exact .inl rfl | exact .inr rfl))) fgs_nil (pgs_cons (pg_name (i := 5) sc_blamed.nd rfl (by first | exact .inl rfl | exact .inr rfl)) pgs_nil)) (pgs_cons (pg_name (i := 4) sc_blamed.nd rfl (by first | exact .inl rfl | exact .inr rfl)) (pgs_cons (pg_name (i := 5) sc_blamed.nd rfl (by first | exact .inl rfl | exact .inr rfl)) pgs_nil))) (pg_tup rfl (pgs_cons (pg_name (i := 4) sc_blamed.nd rfl (by first | exact .inl rfl | exact .inr rfl)) (pgs_cons (pg_name (i := 5) sc_blamed.nd rfl (by first | exact .inl rfl | exact .inr rfl)) pgs_nil))) (pg_lst rfl (pgs_cons (pg_name (i := 4) sc_blamed.nd rfl (by first | exact .inl rfl | exact .inr rfl)) (pgs_cons (pg_name (i := 5) sc_blamed.nd rfl (by first | exact .inl rfl | exact .inr rfl)) pgs_nil))))
    (fss_cons (fs_setV (i := 6) sc_blamed.nd rfl (by first | exact .inl rfl | exact .inr rfl) (ke_call (T.ok_break_in (P := P) (base := base)) hgd (hr.mono (by omega)) T.g_break_in T.F_break_in.kp T.b_break_in hx (fa_cons (fe_var (pv 5)) (fa_cons (fe_kget K w T.d_TABLES (fe_var (pv 2))) fa_nil))))
    (fss_one (fs_if (ft_cmp op_isN2 (fun _ => r2_isN2) (fe_var (pv 6)) fe_non)
    (fss_one (fs_app (pv 3) (fe_tup (fa_cons (fe_var (pv 4)) (fa_cons (fe_var (pv 6)) fa_nil)))))
    fss_nil))))
    (fss_frz 3 (fss_one (fs_app (pv 1) (fe_callTy (kTuple K) (fun _ => ra_tuple) T.n_tuple (fa_cons (fe_var (pv 3)) fa_nil))))))))
    (fss_frz 1 (fss_one (fs_ret (fe_callTy (kTuple K) (fun _ => ra_tuple) T.n_tuple (fa_cons (fe_var (pv 1)) fa_nil)))))))⟩
theorem Tx.ok_widened (T : Tx w K mg) : FnG P w K mg base 1 T.f_widened T.d_widened ["table"] (spM K mg 1 m_widened) := by
  refine ok_def T.F_widened sc_widened fun cdv A outer s H E hgd hr => ?_
  have tk := takes_def (P := P) (w := w) (K := K) (mg := mg) (base := base) (N := ["table", "at"]) (qual := "widened") (sc := defScope s_widened) (f := T.f_widened) (cd := cdv) (A := A) (outer := outer) (s := s) (H := H) (E := E)
  have hx := passAll (passes_call (E := E) tk (fun _ _ _ _ h => h))
  have hu := hu_of2 hr
  exact ⟨_, fun G => (fss_one (fs_ret (fe_callTy (kTuple K) (fun _ => ra_tuple) T.n_tuple (fa_cons (FN.fe (fn_lc [("at", 1)] rfl sc_widened.nd (blkOk_by (by kernel_rfl)) (fit_range1 T.n_range (fa_cons fe_int fa_nil)) (fun _ _ _ _ _ => (gt_name (pg_name (i := 1) sc_widened.nd rfl (by first | exact .inl rfl | exact .inr rfl)))) (fun _ _ _ _ _ => fts_nil) (fun _ _ _ _ _ => (fe_ix (kIx K) (fun _ => r2_ix) (fe_var (pv 0)) (fe_op op_fdiv (fun _ => r2_fdiv) (fe_var (pv 1)) (fe_op op_fdiv (fun _ => r2_fdiv) fe_int (fe_callB (kLen K) (fun _ => ra_len) T.n_len (fa_cons (fe_var (pv 0)) fa_nil)))))))) fa_nil))))⟩
theorem Tx.ok_is_below (T : Tx w K mg) : FnG P w K mg base 1 T.f_is_below T.d_is_below ["value", "limit"] (spM K mg 2 m_is_below) := by
  refine ok_def T.F_is_below sc_is_below fun cdv A outer s H E hgd hr => ?_
  have tk := takes_def (P := P) (w := w) (K := K) (mg := mg) (base := base) (N := ["value", "limit"]) (qual := "is_below") (sc := defScope s_is_below) (f := T.f_is_below) (cd := cdv) (A := A) (outer := outer) (s := s) (H := H) (E := E)
  have hx := passAll (passes_call (E := E) tk (fun _ _ _ _ h => h))
  have hu := hu_of2 hr
  exact ⟨_, fun G => (fss_one (fs_ret (fe_and (ke_isi K (T := "int") T.n_isinstance T.n_int (fe_var (pv 0))) (fe_and (fe_not (ke_isi K (T := "bool") T.n_isinstance T.n_bool (fe_var (pv 0)))) (fe_one (fe_chain op_le op_lt (fun _ => r2_le) (fun _ => r2_lt) fe_int (fe_var (pv 0)) (fe_var (pv 1))))))))⟩
theorem Tx.ok_is_row (T : Tx w K mg) : FnG P w K mg base 2 T.f_is_row T.d_is_row ["value", "size"] (spM K mg 2 m_is_row) := by
  refine ok_def T.F_is_row sc_is_row fun cdv A outer s H E hgd hr => ?_
  have tk := takes_def (P := P) (w := w) (K := K) (mg := mg) (base := base) (N := ["value", "size", "one"]) (qual := "is_row") (sc := defScope s_is_row) (f := T.f_is_row) (cd := cdv) (A := A) (outer := outer) (s := s) (H := H) (E := E)
  have hx := passAll (passes_call (E := E) tk (fun _ _ _ _ h => h))
  have hu := hu_of2 hr
  exact ⟨_, fun G => (fss_cons (fs_if (FT.ofW (fw_or (ft_not (ft_val (ke_isi K (T := "tuple") T.n_isinstance T.n_tuple (fe_var (pv 0))))) (fw_or1 (ft_cmp (kNeD K hu) (fun _ => r2_neD) (fe_callB (kLen K) (fun _ => ra_len) T.n_len (fa_cons (fe_var (pv 0)) fa_nil)) (fe_var (pv 1))))))
    (fss_one (fs_ret fe_bl))
    fss_nil)
    (fss_cons (fs_forV own_def rfl (it_seq K (fe_var (pv 0))) (fg_name (pg_name (i := 2) sc_is_row.nd rfl (by first | exact .inl rfl | exact .inr rfl)))
    (fss_one (fs_if (ft_not (ft_val (ke_call (T.ok_is_below (P := P) (base := base)) hgd (hr.mono (by omega)) T.g_is_below T.F_is_below.kp T.b_is_below hx (fa_cons (fe_var (pv 2)) (fa_cons fe_int fa_nil)))))
    (fss_one (fs_ret fe_bl))
    fss_nil)))
    (fss_one (fs_ret fe_bl))))⟩
theorem Tx.ok_are_rows (T : Tx w K mg) : FnG P w K mg base 3 T.f_are_rows T.d_are_rows ["rows", "size"] (spM K mg 2 m_are_rows) := by
  refine ok_def T.F_are_rows sc_are_rows fun cdv A outer s H E hgd hr => ?_
  have tk := takes_def (P := P) (w := w) (K := K) (mg := mg) (base := base) (N := ["rows", "size", "row"]) (qual := "are_rows") (sc := defScope s_are_rows) (f := T.f_are_rows) (cd := cdv) (A := A) (outer := outer) (s := s) (H := H) (E := E)
  have hx := passAll (passes_call (E := E) tk (fun _ _ _ _ h => h))
  have hu := hu_of2 hr
  exact ⟨_, fun G => (fss_cons (fs_if (FT.ofW (fw_or (ft_not (ft_val (fe_isiT K T.n_isinstance (.cons (pe_bltn (v := .ty "list") (by rfl) T.n_list (by decide +kernel) rfl) (.cons (pe_bltn (v := .ty "tuple") (by rfl) T.n_tuple (by decide +kernel) rfl) .nil)) (fe_var (pv 0))))) (fw_or1 (ft_cmp (kEqD K hu) (fun _ => r2_eqD) (fe_callB (kLen K) (fun _ => ra_len) T.n_len (fa_cons (fe_var (pv 0)) fa_nil)) fe_int))))
    (fss_one (fs_ret fe_bl))
    fss_nil)
    (fss_cons (fs_forV own_def rfl (it_seq K (fe_var (pv 0))) (fg_name (pg_name (i := 2) sc_are_rows.nd rfl (by first | exact .inl rfl | exact .inr rfl)))
    (fss_one (fs_if (ft_not (ft_val (ke_call (T.ok_is_row (P := P) (base := base)) hgd (hr.mono (by omega)) T.g_is_row T.F_is_row.kp T.b_is_row hx (fa_cons (fe_var (pv 2)) (fa_cons (fe_var (pv 1)) fa_nil)))))
    (fss_one (fs_ret fe_bl))
    fss_nil)))
    (fss_one (fs_ret fe_bl))))⟩
theorem Tx.oki_Relation (T : Tx w K mg) : FnG P w K mg base 4 T.I_Relation T.di_Relation ["self", "size", "rows"] (spI K mg "Relation" ["size", "rows"] 2 mi_Relation) := by
  refine ok_ini 2 T.Fi_Relation sci_Relation T.k_Relation fun cdv A outer s H E hgd hr => ?_
  have tk := takes_def (P := P) (w := w) (K := K) (mg := mg) (base := base) (N := ["self", "size", "rows", "row"]) (qual := "Relation.__init__") (sc := defScope si_Relation) (f := T.I_Relation) (cd := cdv) (A := A) (outer := outer) (s := s) (H := H) (E := E)
  have hx := passAll (passes_call (E := E) tk (fun _ _ _ _ h => h))
  have hu := hu_of2 hr
  exact ⟨_, fun G => (fin_gd (FT.ofW (fw_or (ft_not (ft_val (ke_call (T.ok_is_below (P := P) (base := base)) hgd (hr.mono (by omega)) T.g_is_below T.F_is_below.kp T.b_is_below hx (fa_cons (fe_var (pv 1)) (fa_cons (fe_op (kAdd K) (fun _ => r2_addA) (fe_glob (by rfl) T.g_MOST_PLACES T.r_MOST_PLACES T.y_MOST_PLACES) fe_int) fa_nil))))) (fw_or (ft_cmp (kEqD K hu) (fun _ => r2_eqD) (fe_var (pv 1)) fe_int) (fw_or1 (ft_not (ft_val (ke_call (T.ok_are_rows (P := P) (base := base)) hgd (hr.mono (by omega)) T.g_are_rows T.F_are_rows.kp T.b_are_rows hx (fa_cons (fe_var (pv 2)) (fa_cons (fe_var (pv 1)) fa_nil))))))))) (fss_one (fs_raise1 T.x_InvalidRelation (T.in_InvalidRelation (P := P) (w := w) (base := base)) (hr.mono (by omega)) T.bi_InvalidRelation rfl tk (fa_cons (fe_tup (fa_cons (fe_var (pv 1)) (fa_cons (fe_var (pv 2)) fa_nil))) fa_nil))) (fin_fl (fl_cons (pv 0) (fe_var (pv 1)) (fl_cons (pv 0) (fe_callTy (kTuple K) (fun _ => ra_tuple) T.n_tuple (fa_cons (FN.fe (fn_sortD (B := 1000000) [("row", 3)] rfl sci_Relation.nd (Nat.lt_of_le_of_lt (Nat.le_add_right _ _) hu) T.n_sorted (blkOk_by (by kernel_rfl)) (it_seq K (fe_var (pv 2))) (fun _ _ _ _ _ => (gt_name (pg_name (i := 3) sci_Relation.nd rfl (by first | exact .inl rfl | exact .inr rfl)))) (fun _ _ _ _ _ => fts_nil) (fun _ _ _ _ _ => (fe_var (pv 3))) (fun _ _ _ _ _ => fe_bl))) fa_nil)) fl_nil))))⟩
theorem Tx.ok_are_relations (T : Tx w K mg) : FnG P w K mg base 1 T.f_are_relations T.d_are_relations ["relations"] (spM K mg 1 m_are_relations) := by
  refine ok_def T.F_are_relations sc_are_relations fun cdv A outer s H E hgd hr => ?_
  have tk := takes_def (P := P) (w := w) (K := K) (mg := mg) (base := base) (N := ["relations", "relation"]) (qual := "are_relations") (sc := defScope s_are_relations) (f := T.f_are_relations) (cd := cdv) (A := A) (outer := outer) (s := s) (H := H) (E := E)
  have hx := passAll (passes_call (E := E) tk (fun _ _ _ _ h => h))
  have hu := hu_of2 hr
  exact ⟨_, fun G => (fss_cons (fs_if (FT.ofW (fw_or (ft_not (ft_val (fe_isiT K T.n_isinstance (.cons (pe_bltn (v := .ty "list") (by rfl) T.n_list (by decide +kernel) rfl) (.cons (pe_bltn (v := .ty "tuple") (by rfl) T.n_tuple (by decide +kernel) rfl) .nil)) (fe_var (pv 0))))) (fw_or1 (ft_not (ft_chain op_le op_le (fun _ => r2_le) (fun _ => r2_le) fe_int (fe_callB (kLen K) (fun _ => ra_len) T.n_len (fa_cons (fe_var (pv 0)) fa_nil)) (fe_glob (by rfl) T.g_MOST_RELATIONS T.r_MOST_RELATIONS T.y_MOST_RELATIONS))))))
    (fss_one (fs_ret fe_bl))
    fss_nil)
    (fss_cons (fs_forV own_def rfl (it_seq K (fe_var (pv 0))) (fg_name (pg_name (i := 1) sc_are_relations.nd rfl (by first | exact .inl rfl | exact .inr rfl)))
    (fss_one (fs_if (ft_not (ft_val (fe_isiC T.k_Relation T.n_isinstance (fe_var (pv 1)))))
    (fss_one (fs_ret fe_bl))
    fss_nil)))
    (fss_one (fs_ret fe_bl))))⟩
theorem Tx.oki_Book (T : Tx w K mg) : FnG P w K mg base 3 T.I_Book T.di_Book ["self", "relations"] (spI K mg "Book" ["relations", "plain"] 1 mi_Book) := by
  refine ok_ini 1 T.Fi_Book sci_Book T.k_Book fun cdv A outer s H E hgd hr => ?_
  have tk := takes_def (P := P) (w := w) (K := K) (mg := mg) (base := base) (N := ["self", "relations", "relation"]) (qual := "Book.__init__") (sc := defScope si_Book) (f := T.I_Book) (cd := cdv) (A := A) (outer := outer) (s := s) (H := H) (E := E)
  have hx := passAll (passes_call (E := E) tk (fun _ _ _ _ h => h))
  have hu := hu_of2 hr
  exact ⟨_, fun G => (fin_gd (ft_not (ft_val (ke_call (T.ok_are_relations (P := P) (base := base)) hgd (hr.mono (by omega)) T.g_are_relations T.F_are_relations.kp T.b_are_relations hx (fa_cons (fe_var (pv 1)) fa_nil)))) (fss_one (fs_raise1 T.x_InvalidBook (T.in_InvalidBook (P := P) (w := w) (base := base)) (hr.mono (by omega)) T.bi_InvalidBook rfl tk (fa_cons (fe_var (pv 1)) fa_nil))) (fin_fl (fl_cons (pv 0) (fe_callTy (kTuple K) (fun _ => ra_tuple) T.n_tuple (fa_cons (fe_var (pv 1)) fa_nil)) (fl_cons (pv 0) (fe_callTy (kTuple K) (fun _ => ra_tuple) T.n_tuple (fa_cons (FN.fe (fn_lc [("relation", 2)] rfl sci_Book.nd (blkOk_by (by kernel_rfl)) (it_seq K (fe_var (pv 1))) (fun _ _ _ _ _ => (gt_name (pg_name (i := 2) sci_Book.nd rfl (by first | exact .inl rfl | exact .inr rfl)))) (fun _ _ _ _ _ => fts_nil) (fun _ _ _ _ _ => (fe_tup (fa_cons (fe_fldI T.k_Relation.C (T.k_Relation.n _ (by simp)) (fe_var (pv 2))) (fa_cons (fe_fldI T.k_Relation.C (T.k_Relation.n _ (by simp)) (fe_var (pv 2))) fa_nil)))))) fa_nil)) fl_nil))))⟩
theorem Tx.ok__law_draws (T : Tx w K mg) : FnG P w K mg base 1 T.f__law_draws T.d__law_draws ["script", "many"] (spM K mg 2 m__law_draws) := by
  refine ok_def T.F__law_draws sc__law_draws fun cdv A outer s H E hgd hr => ?_
  have tk := takes_def (P := P) (w := w) (K := K) (mg := mg) (base := base) (N := ["script", "many", "rests", "draws", "k", "cell", "mixed", "at"]) (qual := "_law_draws") (sc := defScope s__law_draws) (f := T.f__law_draws) (cd := cdv) (A := A) (outer := outer) (s := s) (H := H) (E := E)
  have hx := passAll (passes_call (E := E) tk (fun _ _ _ _ h => h))
  have hu := hu_of2 hr
  exact ⟨_, fun G => (fss_cons (FLcS.own (fs_lc 2 [("cell", 5)] rfl sc__law_draws.nd rfl (by rfl) (sw_true rfl (by rfl) rfl (by kernel_rfl)) (blkOk_by (by kernel_rfl)) (it_seq K (fe_var (pv 0))) (fun _ _ _ _ _ => (gt_name (pg_name (i := 5) sc__law_draws.nd rfl (by first | exact .inl rfl | exact .inr rfl)))) (fun _ _ _ _ _ => fts_nil) (fun _ _ _ _ _ => (fe_callB call_abs (fun _ => ra_abs) T.n_abs (fa_cons (fe_callTy call_int1 (fun _ => ra_int) T.n_int (fa_cons (fe_var (pv 5)) fa_nil)) fa_nil)))))
    (fss_cons (fs_setO (i := 3) sc__law_draws.nd rfl (by first | exact .inl rfl | exact .inr rfl) (fn_lst fa_nil))
    (fss_cons (fs_forV own_def rfl (fit_range1 T.n_range (fa_cons (fe_var (pv 1)) fa_nil)) (fg_name (pg_name (i := 4) sc__law_draws.nd rfl (by first | exact .inl rfl | exact .inr rfl)))
    (fss_cons (fs_setV (i := 5) sc__law_draws.nd rfl (by first | exact .inl rfl | exact .inr rfl) (fe_var (pv 4)))
    (fss_cons (fs_if (ft_cmp op_gt (fun _ => r2_gt) (fe_callB (kLen K) (fun _ => ra_len) T.n_len (fa_cons (fe_var (pv 0)) fa_nil)) fe_int)
    (fss_cons (fs_setV (i := 7) sc__law_draws.nd rfl (by first | exact .inl rfl | exact .inr rfl) (fe_op op_mod (fun _ => r2_mod) (fe_var (pv 4)) (fe_callB (kLen K) (fun _ => ra_len) T.n_len (fa_cons (fe_var (pv 0)) fa_nil))))
    (fss_cons (fs_setV (i := 5) sc__law_draws.nd rfl (by first | exact .inl rfl | exact .inr rfl) (fe_callTy call_int1 (fun _ => ra_int) T.n_int (fa_cons (fe_ix (kIx K) (fun _ => r2_ix) (fe_var (pv 0)) (fe_var (pv 7))) fa_nil)))
    (fss_one (fs_if (FT.ofW (fw_and (ft_cmp (kGe K hu) (fun _ => r2_geA) (fe_var (pv 5)) (fe_op op_pow (fun _ => r2_pow) fe_int fe_int)) (fw_and1 (ft_cmp op_gt (fun _ => r2_gt) (ke_ixOwn K (fe_var (pv 7)) (pv 2)) fe_int))))
    (fss_cons (fs_app (pv 3) (fe_op op_mod (fun _ => r2_mod) (fe_callTy call_int1 (fun _ => ra_int) T.n_int (fa_cons (ke_ixOwn K (fe_var (pv 7)) (pv 2)) fa_nil)) fe_int))
    (fss_cons (fs_put (pv 2) (fe_var (pv 7)) (fe_op op_fdiv (fun _ => r2_fdiv) (fe_callTy call_int1 (fun _ => ra_int) T.n_int (fa_cons (ke_ixOwn K (fe_var (pv 7)) (pv 2)) fa_nil)) fe_int))
    (fss_one fs_continue)))
    fss_nil))))
    fss_nil)
    (fss_cons (fs_setV (i := 6) sc__law_draws.nd rfl (by first | exact .inl rfl | exact .inr rfl) (fe_op op_mod (fun _ => r2_mod) (fe_callTy call_int1 (fun _ => ra_int) T.n_int (fa_cons (fe_op (kAdd K) (fun _ => r2_addA) (fe_op (kAdd K) (fun _ => r2_addA) (fe_op (kMul K) (fun _ => r2_mulA) (fe_var (pv 5)) fe_int) (fe_op (kMul K) (fun _ => r2_mulA) (fe_var (pv 4)) fe_int)) fe_int) fa_nil)) fe_int))
    (fss_cons (fs_setV (i := 6) sc__law_draws.nd rfl (by first | exact .inl rfl | exact .inr rfl) (fe_op op_mod (fun _ => r2_mod) (fe_callTy call_int1 (fun _ => ra_int) T.n_int (fa_cons (fe_op (kAdd K) (fun _ => r2_addA) (fe_op op_fdiv (fun _ => r2_fdiv) (fe_op (kMul K) (fun _ => r2_mulA) (fe_var (pv 6)) (fe_var (pv 6))) fe_int) (fe_var (pv 6))) fa_nil)) fe_int))
    (fss_one (fs_app (pv 3) (fe_op op_mod (fun _ => r2_mod) (fe_callTy call_int1 (fun _ => ra_int) T.n_int (fa_cons (fe_op (kAdd K) (fun _ => r2_addA) (fe_op op_fdiv (fun _ => r2_fdiv) (fe_op (kMul K) (fun _ => r2_mulA) (fe_var (pv 6)) (fe_var (pv 6))) fe_int) (fe_op (kMul K) (fun _ => r2_mulA) (fe_var (pv 4)) fe_int)) fa_nil)) fe_int))))))))
    (fss_frz 2 (fss_one (fs_retOwn (pv 3)))))))⟩
theorem Tx.ok__law_take (T : Tx w K mg) : FnG P w K mg base 1 T.f__law_take T.d__law_take ["hand", "many"] (spM K mg 2 m__law_take) := by
  refine ok_def T.F__law_take sc__law_take fun cdv A outer s H E hgd hr => ?_
  have tk := takes_def (P := P) (w := w) (K := K) (mg := mg) (base := base) (N := ["hand", "many", "at", "draws"]) (qual := "_law_take") (sc := defScope s__law_take) (f := T.f__law_take) (cd := cdv) (A := A) (outer := outer) (s := s) (H := H) (E := E)
  have hx := passAll (passes_call (E := E) tk (fun _ _ _ _ h => h))
  have hu := hu_of2 hr
  exact ⟨_, fun G => (fss_cons (fs_setV (i := 2) sc__law_take.nd rfl (by first | exact .inl rfl | exact .inr rfl) (fe_ix (kIx K) (fun _ => r2_ix) (fe_var (pv 0)) fe_int))
    (fss_cons (fs_put (pv 0) fe_int (fe_op (kAdd K) (fun _ => r2_addA) (fe_var (pv 2)) fe_int))
    (fss_cons (fs_setV (i := 3) sc__law_take.nd rfl (by first | exact .inl rfl | exact .inr rfl) (fe_ix (kIx K) (fun _ => r2_ix) (fe_var (pv 0)) fe_int))
    (fss_cons (fs_if (ft_cmp (kGe K hu) (fun _ => r2_geA) (fe_var (pv 2)) (fe_callB (kLen K) (fun _ => ra_len) T.n_len (fa_cons (fe_var (pv 3)) fa_nil)))
    (fss_one (fs_ret fe_int))
    fss_nil)
    (fss_one (fs_ret (fe_op op_mod (fun _ => r2_mod) (fe_op op_fdiv (fun _ => r2_fdiv) (fe_callTy call_int1 (fun _ => ra_int) T.n_int (fa_cons (fe_ix (kIx K) (fun _ => r2_ix) (fe_var (pv 3)) (fe_var (pv 2))) fa_nil)) fe_int) (fe_var (pv 1)))))))))⟩
theorem Tx.ok__law_every (T : Tx w K mg) : FnG P w K mg base 1 T.f__law_every T.d__law_every ["many"] (spM K mg 1 m__law_every) := by
  refine ok_def T.F__law_every sc__law_every fun cdv A outer s H E hgd hr => ?_
  have tk := takes_def (P := P) (w := w) (K := K) (mg := mg) (base := base) (N := ["many", "found", "k", "longer", "row"]) (qual := "_law_every") (sc := defScope s__law_every) (f := T.f__law_every) (cd := cdv) (A := A) (outer := outer) (s := s) (H := H) (E := E)
  have hx := passAll (passes_call (E := E) tk (fun _ _ _ _ h => h))
  have hu := hu_of2 hr
  exact ⟨_, fun G => (fss_cons (fs_setV (i := 1) sc__law_every.nd rfl (by first | exact .inl rfl | exact .inr rfl) (FN.fe (fn_lst (fa_cons (fe_tup fa_nil) fa_nil))))
    (fss_cons (fs_forV own_def rfl (fit_range1 T.n_range (fa_cons (fe_var (pv 0)) fa_nil)) (fg_name (pg_name (i := 2) sc__law_every.nd rfl (by first | exact .inl rfl | exact .inr rfl)))
    (fss_cons (fs_setV (i := 3) sc__law_every.nd rfl (by first | exact .inl rfl | exact .inr rfl) (FN.fe (fn_lst fa_nil)))
    (fss_cons (fs_forV own_def rfl (it_seq K (fe_var (pv 1))) (fg_name (pg_name (i := 4) sc__law_every.nd rfl (by first | exact .inl rfl | exact .inr rfl)))
    (fss_one (fs_setV (i := 3) sc__law_every.nd rfl (by first | exact .inl rfl | exact .inr rfl) (fe_op (kAdd K) (fun _ => r2_addA) (fe_var (pv 3)) (FN.fe (fn_lst (fa_cons (fe_op (kAdd K) (fun _ => r2_addA) (fe_var (pv 4)) (fe_tup (fa_cons fe_int fa_nil))) (fa_cons (fe_op (kAdd K) (fun _ => r2_addA) (fe_var (pv 4)) (fe_tup (fa_cons fe_int fa_nil))) fa_nil))))))))
    (fss_one (fs_setV (i := 1) sc__law_every.nd rfl (by first | exact .inl rfl | exact .inr rfl) (fe_var (pv 3)))))))
    (fss_one (fs_ret (fe_var (pv 1))))))⟩
theorem Tx.ok__law_rows (T : Tx w K mg) : FnG P w K mg base 2 T.f__law_rows T.d__law_rows ["hand", "size", "most"] (spM K mg 3 m__law_rows) := by
  refine ok_def T.F__law_rows sc__law_rows fun cdv A outer s H E hgd hr => ?_
  have tk := takes_def (P := P) (w := w) (K := K) (mg := mg) (base := base) (N := ["hand", "size", "most", "every", "rows", "k", "row"]) (qual := "_law_rows") (sc := defScope s__law_rows) (f := T.f__law_rows) (cd := cdv) (A := A) (outer := outer) (s := s) (H := H) (E := E)
  have hx := passAll (passes_call (E := E) tk (fun _ _ _ _ h => h))
  have hu := hu_of2 hr
  exact ⟨_, fun G => (fss_cons (fs_setV (i := 3) sc__law_rows.nd rfl (by first | exact .inl rfl | exact .inr rfl) (ke_call (T.ok__law_every (P := P) (base := base)) hgd (hr.mono (by omega)) T.g__law_every T.F__law_every.kp T.b__law_every hx (fa_cons (fe_var (pv 1)) fa_nil)))
    (fss_cons (fs_setO (i := 4) sc__law_rows.nd rfl (by first | exact .inl rfl | exact .inr rfl) (fn_lst fa_nil))
    (fss_cons (fs_forV own_def rfl (fit_range1 T.n_range (fa_cons (fe_op (kAdd K) (fun _ => r2_addA) fe_int (ke_call (T.ok__law_take (P := P) (base := base)) hgd (hr.mono (by omega)) T.g__law_take T.F__law_take.kp T.b__law_take hx (fa_cons (fe_var (pv 0)) (fa_cons (fe_var (pv 2)) fa_nil)))) fa_nil)) (fg_name (pg_name (i := 5) sc__law_rows.nd rfl (by first | exact .inl rfl | exact .inr rfl)))
    (fss_cons (fs_setV (i := 6) sc__law_rows.nd rfl (by first | exact .inl rfl | exact .inr rfl) (fe_ix (kIx K) (fun _ => r2_ix) (fe_var (pv 3)) (ke_call (T.ok__law_take (P := P) (base := base)) hgd (hr.mono (by omega)) T.g__law_take T.F__law_take.kp T.b__law_take hx (fa_cons (fe_var (pv 0)) (fa_cons (fe_callB (kLen K) (fun _ => ra_len) T.n_len (fa_cons (fe_var (pv 3)) fa_nil)) fa_nil)))))
    (fss_one (fs_if (ft_ninOwn K hu (fe_var (pv 6)) (pv 4))
    (fss_one (fs_app (pv 4) (fe_var (pv 6))))
    fss_nil))))
    (fss_frz 4 (fss_one (fs_ret (fe_callTy (kTuple K) (fun _ => ra_tuple) T.n_tuple (fa_cons (FN.fe (fn_callB (cr_sortA (B := 1000000) K) (fun _ => ra_sortL) T.n_sorted (fa_cons (fe_var (pv 4)) fa_nil))) fa_nil))))))))⟩
theorem Tx.ok__law_place (T : Tx w K mg) : FnG P w K mg base 1 T.f__law_place T.d__law_place ["row"] (spM K mg 1 m__law_place) := by
  refine ok_def T.F__law_place sc__law_place fun cdv A outer s H E hgd hr => ?_
  have tk := takes_def (P := P) (w := w) (K := K) (mg := mg) (base := base) (N := ["row", "place", "value"]) (qual := "_law_place") (sc := defScope s__law_place) (f := T.f__law_place) (cd := cdv) (A := A) (outer := outer) (s := s) (H := H) (E := E)
  have hx := passAll (passes_call (E := E) tk (fun _ _ _ _ h => h))
  have hu := hu_of2 hr
  exact ⟨_, fun G => (fss_cons (fs_setV (i := 1) sc__law_place.nd rfl (by first | exact .inl rfl | exact .inr rfl) fe_int)
    (fss_cons (fs_forV own_def rfl (it_seq K (fe_var (pv 0))) (fg_name (pg_name (i := 2) sc__law_place.nd rfl (by first | exact .inl rfl | exact .inr rfl)))
    (fss_one (fs_setV (i := 1) sc__law_place.nd rfl (by first | exact .inl rfl | exact .inr rfl) (fe_op (kAdd K) (fun _ => r2_addA) (fe_op (kMul K) (fun _ => r2_mulA) fe_int (fe_var (pv 1))) (fe_var (pv 2))))))
    (fss_one (fs_ret (fe_var (pv 1))))))⟩
theorem Tx.ok__law_made (T : Tx w K mg) : FnG P w K mg base 2 T.f__law_made T.d__law_made ["table", "rows"] (spM K mg 2 m__law_made) := by
  refine ok_def T.F__law_made sc__law_made fun cdv A outer s H E hgd hr => ?_
  have tk := takes_def (P := P) (w := w) (K := K) (mg := mg) (base := base) (N := ["table", "rows", "j", "row"]) (qual := "_law_made") (sc := defScope s__law_made) (f := T.f__law_made) (cd := cdv) (A := A) (outer := outer) (s := s) (H := H) (E := E)
  have hx := passAll (passes_call (E := E) tk (fun _ _ _ _ h => h))
  have hu := hu_of2 hr
  exact ⟨_, fun G => (fss_one (fs_ret (fe_callTy (kTuple K) (fun _ => ra_tuple) T.n_tuple (fa_cons (FN.fe (fn_lc [("j", 2)] rfl sc__law_made.nd (blkOk_by (by kernel_rfl)) (fit_range1 T.n_range (fa_cons (fe_callB (kLen K) (fun _ => ra_len) T.n_len (fa_cons (fe_ix (kIx K) (fun _ => r2_ix) (fe_var (pv 1)) fe_int) fa_nil)) fa_nil)) (fun _ _ _ _ _ => (gt_name (pg_name (i := 2) sc__law_made.nd rfl (by first | exact .inl rfl | exact .inr rfl)))) (fun _ _ _ _ _ => fts_nil) (fun _ _ _ _ _ => (fe_ix (kIx K) (fun _ => r2_ix) (fe_var (pv 0)) (ke_call (T.ok__law_place (P := P) (base := base)) hgd (hr.mono (by omega)) T.g__law_place T.F__law_place.kp T.b__law_place (passAll passL) (fa_cons (FN.fe (fn_lc [("row", 3)] rfl sc__law_made.nd (blkOk_by (by kernel_rfl)) (it_seq K (fe_var (pv 1))) (fun _ _ _ _ _ => (gt_name (pg_name (i := 3) sc__law_made.nd rfl (by first | exact .inl rfl | exact .inr rfl)))) (fun _ _ _ _ _ => fts_nil) (fun _ _ _ _ _ => (fe_ix (kIx K) (fun _ => r2_ix) (fe_var (pv 3)) (fe_var (pv 2)))))) fa_nil)))))) fa_nil))))⟩
theorem Tx.ok__law_tuples (T : Tx w K mg) : FnG P w K mg base 1 T.f__law_tuples T.d__law_tuples ["rows", "m"] (spM K mg 2 m__law_tuples) := by
  refine ok_def T.F__law_tuples sc__law_tuples fun cdv A outer s H E hgd hr => ?_
  have tk := takes_def (P := P) (w := w) (K := K) (mg := mg) (base := base) (N := ["rows", "m", "found", "k", "longer", "one", "row"]) (qual := "_law_tuples") (sc := defScope s__law_tuples) (f := T.f__law_tuples) (cd := cdv) (A := A) (outer := outer) (s := s) (H := H) (E := E)
  have hx := passAll (passes_call (E := E) tk (fun _ _ _ _ h => h))
  have hu := hu_of2 hr
  exact ⟨_, fun G => (fss_cons (fs_setV (i := 2) sc__law_tuples.nd rfl (by first | exact .inl rfl | exact .inr rfl) (FN.fe (fn_lst (fa_cons (fe_tup fa_nil) fa_nil))))
    (fss_cons (fs_forV own_def rfl (fit_range1 T.n_range (fa_cons (fe_var (pv 1)) fa_nil)) (fg_name (pg_name (i := 3) sc__law_tuples.nd rfl (by first | exact .inl rfl | exact .inr rfl)))
    (fss_cons (fs_setV (i := 4) sc__law_tuples.nd rfl (by first | exact .inl rfl | exact .inr rfl) (FN.fe (fn_lst fa_nil)))
    (fss_cons (fs_forV own_def rfl (it_seq K (fe_var (pv 2))) (fg_name (pg_name (i := 5) sc__law_tuples.nd rfl (by first | exact .inl rfl | exact .inr rfl)))
    (fss_one (fs_setV (i := 4) sc__law_tuples.nd rfl (by first | exact .inl rfl | exact .inr rfl) (fe_op (kAdd K) (fun _ => r2_addA) (fe_var (pv 4)) (FN.fe (fn_lc [("row", 6)] rfl sc__law_tuples.nd (blkOk_by (by kernel_rfl)) (it_seq K (fe_var (pv 0))) (fun _ _ _ _ _ => (gt_name (pg_name (i := 6) sc__law_tuples.nd rfl (by first | exact .inl rfl | exact .inr rfl)))) (fun _ _ _ _ _ => fts_nil) (fun _ _ _ _ _ => (fe_op (kAdd K) (fun _ => r2_addA) (fe_var (pv 5)) (fe_tup (fa_cons (fe_var (pv 6)) fa_nil))))))))))
    (fss_one (fs_setV (i := 2) sc__law_tuples.nd rfl (by first | exact .inl rfl | exact .inr rfl) (fe_var (pv 4)))))))
    (fss_one (fs_ret (fe_var (pv 2))))))⟩
theorem Tx.ok__law_break (T : Tx w K mg) : FnG P w K mg base 3 T.f__law_break T.d__law_break ["relation", "table", "m"] (spM K mg 3 m__law_break) := by
  refine ok_def T.F__law_break sc__law_break fun cdv A outer s H E hgd hr => ?_
  have tk := takes_def (P := P) (w := w) (K := K) (mg := mg) (base := base) (N := ["relation", "table", "m", "rows", "one"]) (qual := "_law_break") (sc := defScope s__law_break) (f := T.f__law_break) (cd := cdv) (A := A) (outer := outer) (s := s) (H := H) (E := E)
  have hx := passAll (passes_call (E := E) tk (fun _ _ _ _ h => h))
  have hu := hu_of2 hr
  exact ⟨_, fun G => (fss_cons (fs_setV (i := 3) sc__law_break.nd rfl (by first | exact .inl rfl | exact .inr rfl) (fe_ix (kIx K) (fun _ => r2_ix) (fe_var (pv 0)) fe_int))
    (fss_cons (fs_forV own_def rfl (it_seq K (ke_call (T.ok__law_tuples (P := P) (base := base)) hgd (hr.mono (by omega)) T.g__law_tuples T.F__law_tuples.kp T.b__law_tuples hx (fa_cons (fe_var (pv 3)) (fa_cons (fe_var (pv 2)) fa_nil)))) (fg_name (pg_name (i := 4) sc__law_break.nd rfl (by first | exact .inl rfl | exact .inr rfl)))
    (fss_one (fs_if (ft_cmp (kNotInD K hu) (fun _ => r2_notInA) (ke_call (T.ok__law_made (P := P) (base := base)) hgd (hr.mono (by omega)) T.g__law_made T.F__law_made.kp T.b__law_made hx (fa_cons (fe_var (pv 1)) (fa_cons (fe_var (pv 4)) fa_nil))) (fe_var (pv 3)))
    (fss_one (fs_ret (fe_var (pv 4))))
    fss_nil)))
    (fss_one (fs_ret fe_non))))⟩
theorem Tx.ok__law_six (T : Tx w K mg) : FnG P w K mg base 1 T.f__law_six T.d__law_six [] (spM K mg 0 m__law_six) := by
  refine ok_def T.F__law_six sc__law_six fun cdv A outer s H E hgd hr => ?_
  have tk := takes_def (P := P) (w := w) (K := K) (mg := mg) (base := base) (N := []) (qual := "_law_six") (sc := defScope s__law_six) (f := T.f__law_six) (cd := cdv) (A := A) (outer := outer) (s := s) (H := H) (E := E)
  have hx := passAll (passes_call (E := E) tk (fun _ _ _ _ h => h))
  have hu := hu_of2 hr
  exact ⟨_, fun G => (fss_one (fs_ret (FN.fe (fn_lst (fa_cons (fe_tup (fa_cons fe_str (fa_cons (fe_tup (fa_cons fe_int (fa_cons fe_int fa_nil))) fa_nil))) (fa_cons (fe_tup (fa_cons fe_str (fa_cons (fe_tup (fa_cons fe_int (fa_cons fe_int fa_nil))) fa_nil))) (fa_cons (fe_tup (fa_cons fe_str (fa_cons (fe_tup (fa_cons fe_int (fa_cons fe_int (fa_cons fe_int (fa_cons fe_int fa_nil))))) fa_nil))) (fa_cons (fe_tup (fa_cons fe_str (fa_cons (fe_tup (fa_cons fe_int (fa_cons fe_int (fa_cons fe_int (fa_cons fe_int fa_nil))))) fa_nil))) (fa_cons (fe_tup (fa_cons fe_str (fa_cons (fe_tup (fa_cons fe_int (fa_cons fe_int (fa_cons fe_int (fa_cons fe_int (fa_cons fe_int (fa_cons fe_int (fa_cons fe_int (fa_cons fe_int fa_nil))))))))) fa_nil))) (fa_cons (fe_tup (fa_cons fe_str (fa_cons (fe_tup (fa_cons fe_int (fa_cons fe_int (fa_cons fe_int (fa_cons fe_int (fa_cons fe_int (fa_cons fe_int (fa_cons fe_int (fa_cons fe_int fa_nil))))))))) fa_nil))) fa_nil))))))))))⟩
theorem Tx.ok__law_places_of (T : Tx w K mg) : FnG P w K mg base 1 T.f__law_places_of T.d__law_places_of ["table"] (spM K mg 1 m__law_places_of) := by
  refine ok_def T.F__law_places_of sc__law_places_of fun cdv A outer s H E hgd hr => ?_
  have tk := takes_def (P := P) (w := w) (K := K) (mg := mg) (base := base) (N := ["table"]) (qual := "_law_places_of") (sc := defScope s__law_places_of) (f := T.f__law_places_of) (cd := cdv) (A := A) (outer := outer) (s := s) (H := H) (E := E)
  have hx := passAll (passes_call (E := E) tk (fun _ _ _ _ h => h))
  have hu := hu_of2 hr
  exact ⟨_, fun G => (fss_one (fs_ret (fe_ix (kIx K) (fun _ => r2_ix) (FN.fe (fn_lst (fa_cons fe_int (fa_cons fe_int (fa_cons fe_int (fa_cons fe_int fa_nil)))))) (fe_index K (FN.fe (fn_lst (fa_cons fe_int (fa_cons fe_int (fa_cons fe_int (fa_cons fe_int fa_nil)))))) (fa_cons (fe_callB (kLen K) (fun _ => ra_len) T.n_len (fa_cons (fe_var (pv 0)) fa_nil)) fa_nil)))))⟩
theorem Tx.ok__law_closed (T : Tx w K mg) : FnG P w K mg base 3 T.f__law_closed T.d__law_closed ["rows", "table"] (spM K mg 2 m__law_closed) := by
  refine ok_def T.F__law_closed sc__law_closed fun cdv A outer s H E hgd hr => ?_
  have tk := takes_def (P := P) (w := w) (K := K) (mg := mg) (base := base) (N := ["rows", "table", "m", "kept", "step", "more", "one", "row"]) (qual := "_law_closed") (sc := defScope s__law_closed) (f := T.f__law_closed) (cd := cdv) (A := A) (outer := outer) (s := s) (H := H) (E := E)
  have hx := passAll (passes_call (E := E) tk (fun _ _ _ _ h => h))
  have hu := hu_of2 hr
  exact ⟨_, fun G => (fss_cons (fs_setV (i := 2) sc__law_closed.nd rfl (by first | exact .inl rfl | exact .inr rfl) (ke_call (T.ok__law_places_of (P := P) (base := base)) hgd (hr.mono (by omega)) T.g__law_places_of T.F__law_places_of.kp T.b__law_places_of hx (fa_cons (fe_var (pv 1)) fa_nil)))
    (fss_cons (fs_setV (i := 3) sc__law_closed.nd rfl (by first | exact .inl rfl | exact .inr rfl) (FN.fe (fn_callTy (kList K) (fun _ => ra_list) T.n_list (fa_cons (fe_var (pv 0)) fa_nil))))
    (fss_cons (fs_forV own_def rfl (fit_range1 T.n_range (fa_cons fe_int fa_nil)) (fg_name (pg_name (i := 4) sc__law_closed.nd rfl (by first | exact .inl rfl | exact .inr rfl)))
    (fss_cons (fs_if (ft_cmp op_gt (fun _ => r2_gt) (fe_callB (kLen K) (fun _ => ra_len) T.n_len (fa_cons (fe_var (pv 3)) fa_nil)) fe_int)
    (fss_one (fs_ret (fe_var (pv 0))))
    fss_nil)
    (fss_cons (fs_setO (i := 5) sc__law_closed.nd rfl (by first | exact .inl rfl | exact .inr rfl) (fn_lst fa_nil))
    (fss_cons (fs_forV own_def rfl (it_seq K (ke_call (T.ok__law_tuples (P := P) (base := base)) hgd (hr.mono (by omega)) T.g__law_tuples T.F__law_tuples.kp T.b__law_tuples hx (fa_cons (fe_var (pv 3)) (fa_cons (fe_var (pv 2)) fa_nil)))) (fg_name (pg_name (i := 6) sc__law_closed.nd rfl (by first | exact .inl rfl | exact .inr rfl)))
    (fss_cons (fs_setV (i := 7) sc__law_closed.nd rfl (by first | exact .inl rfl | exact .inr rfl) (ke_call (T.ok__law_made (P := P) (base := base)) hgd (hr.mono (by omega)) T.g__law_made T.F__law_made.kp T.b__law_made hx (fa_cons (fe_var (pv 1)) (fa_cons (fe_var (pv 6)) fa_nil))))
    (fss_one (fs_if (FT.ofW (fw_and (ft_cmp (kNotInD K hu) (fun _ => r2_notInA) (fe_var (pv 7)) (fe_var (pv 3))) (fw_and1 (ft_ninOwn K hu (fe_var (pv 7)) (pv 5)))))
    (fss_one (fs_app (pv 5) (fe_var (pv 7))))
    fss_nil))))
    (fss_frz 5 (fss_cons (fs_if (ft_cmp (kEqD K hu) (fun _ => r2_eqD) (fe_callB (kLen K) (fun _ => ra_len) T.n_len (fa_cons (fe_var (pv 5)) fa_nil)) fe_int)
    (fss_one fs_break)
    fss_nil)
    (fss_one (fs_setV (i := 3) sc__law_closed.nd rfl (by first | exact .inl rfl | exact .inr rfl) (fe_op (kAdd K) (fun _ => r2_addA) (fe_var (pv 3)) (fe_var (pv 5)))))))))))
    (fss_one (fs_ret (fe_callTy (kTuple K) (fun _ => ra_tuple) T.n_tuple (fa_cons (FN.fe (fn_callB (cr_sortA (B := 1000000) K) (fun _ => ra_sortL) T.n_sorted (fa_cons (fe_var (pv 3)) fa_nil))) fa_nil)))))))⟩
theorem Tx.ok__law_drawn_book (T : Tx w K mg) : FnG P w K mg base 4 T.f__law_drawn_book T.d__law_drawn_book ["hand"] (spM K mg 1 m__law_drawn_book) := by
  refine ok_def T.F__law_drawn_book sc__law_drawn_book fun cdv A outer s H E hgd hr => ?_
  have tk := takes_def (P := P) (w := w) (K := K) (mg := mg) (base := base) (N := ["hand", "book", "k", "size", "rows"]) (qual := "_law_drawn_book") (sc := defScope s__law_drawn_book) (f := T.f__law_drawn_book) (cd := cdv) (A := A) (outer := outer) (s := s) (H := H) (E := E)
  have hx := passAll (passes_call (E := E) tk (fun _ _ _ _ h => h))
  have hu := hu_of2 hr
  exact ⟨_, fun G => (fss_cons (fs_setO (i := 1) sc__law_drawn_book.nd rfl (by first | exact .inl rfl | exact .inr rfl) (fn_lst fa_nil))
    (fss_cons (fs_forV own_def rfl (fit_range1 T.n_range (fa_cons (fe_ix (kIx K) (fun _ => r2_ix) (FN.fe (fn_lst (fa_cons fe_int (fa_cons fe_int (fa_cons fe_int (fa_cons fe_int (fa_cons fe_int (fa_cons fe_int fa_nil)))))))) (ke_call (T.ok__law_take (P := P) (base := base)) hgd (hr.mono (by omega)) T.g__law_take T.F__law_take.kp T.b__law_take hx (fa_cons (fe_var (pv 0)) (fa_cons fe_int fa_nil)))) fa_nil)) (fg_name (pg_name (i := 2) sc__law_drawn_book.nd rfl (by first | exact .inl rfl | exact .inr rfl)))
    (fss_cons (fs_setV (i := 3) sc__law_drawn_book.nd rfl (by first | exact .inl rfl | exact .inr rfl) (fe_ix (kIx K) (fun _ => r2_ix) (FN.fe (fn_lst (fa_cons fe_int (fa_cons fe_int (fa_cons fe_int (fa_cons fe_int (fa_cons fe_int (fa_cons fe_int fa_nil)))))))) (ke_call (T.ok__law_take (P := P) (base := base)) hgd (hr.mono (by omega)) T.g__law_take T.F__law_take.kp T.b__law_take hx (fa_cons (fe_var (pv 0)) (fa_cons fe_int fa_nil)))))
    (fss_cons (fs_setV (i := 4) sc__law_drawn_book.nd rfl (by first | exact .inl rfl | exact .inr rfl) (ke_call (T.ok__law_rows (P := P) (base := base)) hgd (hr.mono (by omega)) T.g__law_rows T.F__law_rows.kp T.b__law_rows hx (fa_cons (fe_var (pv 0)) (fa_cons (fe_var (pv 3)) (fa_cons (fe_ix (kIx K) (fun _ => r2_ix) (FN.fe (fn_lst (fa_cons fe_int (fa_cons fe_int (fa_cons fe_int fa_nil))))) (ke_call (T.ok__law_take (P := P) (base := base)) hgd (hr.mono (by omega)) T.g__law_take T.F__law_take.kp T.b__law_take hx (fa_cons (fe_var (pv 0)) (fa_cons fe_int fa_nil)))) fa_nil)))))
    (fss_cons (fs_if (ft_cmp (kEqD K hu) (fun _ => r2_eqD) (ke_call (T.ok__law_take (P := P) (base := base)) hgd (hr.mono (by omega)) T.g__law_take T.F__law_take.kp T.b__law_take hx (fa_cons (fe_var (pv 0)) (fa_cons fe_int fa_nil))) fe_int)
    (fss_one (fs_setV (i := 4) sc__law_drawn_book.nd rfl (by first | exact .inl rfl | exact .inr rfl) (ke_call (T.ok__law_closed (P := P) (base := base)) hgd (hr.mono (by omega)) T.g__law_closed T.F__law_closed.kp T.b__law_closed hx (fa_cons (fe_var (pv 4)) (fa_cons (fe_ix (kIx K) (fun _ => r2_ix) (fe_ix (kIx K) (fun _ => r2_ix) (ke_call0 (T.ok__law_six (P := P) (base := base)) hgd (hr.mono (by omega)) T.g__law_six T.F__law_six.kp T.b__law_six hx) (ke_call (T.ok__law_take (P := P) (base := base)) hgd (hr.mono (by omega)) T.g__law_take T.F__law_take.kp T.b__law_take hx (fa_cons (fe_var (pv 0)) (fa_cons fe_int fa_nil)))) fe_int) fa_nil)))))
    fss_nil)
    (fss_one (fs_app (pv 1) (fe_tup (fa_cons (fe_var (pv 3)) (fa_cons (fe_var (pv 4)) fa_nil)))))))))
    (fss_one (fs_retOwn (pv 1)))))⟩
theorem Tx.ok__law_book (T : Tx w K mg) : FnG P w K mg base 6 T.f__law_book T.d__law_book ["book"] (spM K mg 1 m__law_book) := by
  refine ok_def T.F__law_book sc__law_book fun cdv A outer s H E hgd hr => ?_
  have tk := takes_def (P := P) (w := w) (K := K) (mg := mg) (base := base) (N := ["book", "size", "rows"]) (qual := "_law_book") (sc := defScope s__law_book) (f := T.f__law_book) (cd := cdv) (A := A) (outer := outer) (s := s) (H := H) (E := E)
  have hx := passAll (passes_call (E := E) tk (fun _ _ _ _ h => h))
  have hu := hu_of2 hr
  exact ⟨_, fun G => (fss_one (fs_ret (ke_make T.k_Book.M (T.oki_Book (P := P) (base := base)) hgd (hr.mono (by omega)) T.k_Book.g T.bi_Book hx (fa_cons (FN.fe (fn_lc [("size", 1), ("rows", 2)] rfl sc__law_book.nd (blkOk_by (by kernel_rfl)) (it_seq K (fe_var (pv 0))) (fun _ _ _ _ _ => (gk_tup K (gts_cons (gt_name (pg_name (i := 1) sc__law_book.nd rfl (by first | exact .inl rfl | exact .inr rfl))) (gts_cons (gt_name (pg_name (i := 2) sc__law_book.nd rfl (by first | exact .inl rfl | exact .inr rfl))) gts_nil (pgs_cons (pg_name (i := 2) sc__law_book.nd rfl (by first | exact .inl rfl | exact .inr rfl)) pgs_nil)) (pgs_cons (pg_name (i := 1) sc__law_book.nd rfl (by first | exact .inl rfl | exact .inr rfl)) (pgs_cons (pg_name (i := 2) sc__law_book.nd rfl (by first | exact .inl rfl | exact .inr rfl)) pgs_nil))) (pg_tup rfl (pgs_cons (pg_name (i := 1) sc__law_book.nd rfl (by first | exact .inl rfl | exact .inr rfl)) (pgs_cons (pg_name (i := 2) sc__law_book.nd rfl (by first | exact .inl rfl | exact .inr rfl)) pgs_nil))))) (fun _ _ _ _ _ => fts_nil) (fun _ _ _ _ _ => (ke_make T.k_Relation.M (T.oki_Relation (P := P) (base := base)) hgd (hr.mono (by omega)) T.k_Relation.g T.bi_Relation (passAll passL) (fa_cons (fe_var (pv 1)) (fa_cons (fe_var (pv 2)) fa_nil)))))) fa_nil))))⟩
theorem Tx.ok__law_drawn_table (T : Tx w K mg) : FnG P w K mg base 2 T.f__law_drawn_table T.d__law_drawn_table ["hand", "m"] (spM K mg 2 m__law_drawn_table) := by
  refine ok_def T.F__law_drawn_table sc__law_drawn_table fun cdv A outer s H E hgd hr => ?_
  have tk := takes_def (P := P) (w := w) (K := K) (mg := mg) (base := base) (N := ["hand", "m", "kind", "fitting", "place", "word", "table", "row"]) (qual := "_law_drawn_table") (sc := defScope s__law_drawn_table) (f := T.f__law_drawn_table) (cd := cdv) (A := A) (outer := outer) (s := s) (H := H) (E := E)
  have hx := passAll (passes_call (E := E) tk (fun _ _ _ _ h => h))
  have hu := hu_of2 hr
  exact ⟨_, fun G => (fss_cons (fs_setV (i := 2) sc__law_drawn_table.nd rfl (by first | exact .inl rfl | exact .inr rfl) (ke_call (T.ok__law_take (P := P) (base := base)) hgd (hr.mono (by omega)) T.g__law_take T.F__law_take.kp T.b__law_take hx (fa_cons (fe_var (pv 0)) (fa_cons fe_int fa_nil))))
    (fss_cons (FLcS.val (fs_lc 3 [("word", 5), ("table", 6)] rfl sc__law_drawn_table.nd rfl (by rfl) (sw_true rfl (by rfl) rfl (by kernel_rfl)) (blkOk_by (by kernel_rfl)) (it_seq K (ke_call0 (T.ok__law_six (P := P) (base := base)) hgd (hr.mono (by omega)) T.g__law_six T.F__law_six.kp T.b__law_six hx)) (fun _ _ _ _ _ => (gk_tup K (gts_cons (gt_name (pg_name (i := 5) sc__law_drawn_table.nd rfl (by first | exact .inl rfl | exact .inr rfl))) (gts_cons (gt_name (pg_name (i := 6) sc__law_drawn_table.nd rfl (by first | exact .inl rfl | exact .inr rfl))) gts_nil (pgs_cons (pg_name (i := 6) sc__law_drawn_table.nd rfl (by first | exact .inl rfl | exact .inr rfl)) pgs_nil)) (pgs_cons (pg_name (i := 5) sc__law_drawn_table.nd rfl (by first | exact .inl rfl | exact .inr rfl)) (pgs_cons (pg_name (i := 6) sc__law_drawn_table.nd rfl (by first | exact .inl rfl | exact .inr rfl)) pgs_nil))) (pg_tup rfl (pgs_cons (pg_name (i := 5) sc__law_drawn_table.nd rfl (by first | exact .inl rfl | exact .inr rfl)) (pgs_cons (pg_name (i := 6) sc__law_drawn_table.nd rfl (by first | exact .inl rfl | exact .inr rfl)) pgs_nil))))) (fun _ _ _ _ _ => (fts_one (ft_cmp (kEqD K hu) (fun _ => r2_eqD) (fe_callB (kLen K) (fun _ => ra_len) T.n_len (fa_cons (fe_var (pv 6)) fa_nil)) (fe_op op_shl (fun _ => r2_shl) fe_int (fe_var (pv 1)))))) (fun _ _ _ _ _ => (fe_var (pv 6)))))
    (fss_cons (fs_if (FT.ofW (fw_and (ft_cmp (kEqD K hu) (fun _ => r2_eqD) (fe_var (pv 2)) fe_int) (fw_and1 (ft_cmp op_gt (fun _ => r2_gt) (fe_callB (kLen K) (fun _ => ra_len) T.n_len (fa_cons (fe_var (pv 3)) fa_nil)) fe_int))))
    (fss_one (fs_ret (fe_ix (kIx K) (fun _ => r2_ix) (fe_var (pv 3)) (ke_call (T.ok__law_take (P := P) (base := base)) hgd (hr.mono (by omega)) T.g__law_take T.F__law_take.kp T.b__law_take hx (fa_cons (fe_var (pv 0)) (fa_cons (fe_callB (kLen K) (fun _ => ra_len) T.n_len (fa_cons (fe_var (pv 3)) fa_nil)) fa_nil))))))
    fss_nil)
    (fss_cons (fs_if (ft_cmp (kEqD K hu) (fun _ => r2_eqD) (fe_var (pv 2)) fe_int)
    (fss_cons (fs_setV (i := 4) sc__law_drawn_table.nd rfl (by first | exact .inl rfl | exact .inr rfl) (ke_call (T.ok__law_take (P := P) (base := base)) hgd (hr.mono (by omega)) T.g__law_take T.F__law_take.kp T.b__law_take hx (fa_cons (fe_var (pv 0)) (fa_cons (fe_var (pv 1)) fa_nil))))
    (fss_one (fs_ret (fe_callTy (kTuple K) (fun _ => ra_tuple) T.n_tuple (fa_cons (FN.fe (fn_lc [("row", 7)] rfl sc__law_drawn_table.nd (blkOk_by (by kernel_rfl)) (it_seq K (ke_call (T.ok__law_every (P := P) (base := base)) hgd (hr.mono (by omega)) T.g__law_every T.F__law_every.kp T.b__law_every hx (fa_cons (fe_var (pv 1)) fa_nil))) (fun _ _ _ _ _ => (gt_name (pg_name (i := 7) sc__law_drawn_table.nd rfl (by first | exact .inl rfl | exact .inr rfl)))) (fun _ _ _ _ _ => fts_nil) (fun _ _ _ _ _ => (fe_callTy call_int1 (fun _ => ra_int) T.n_int (fa_cons (fe_cmp (kNeD K hu) (fun _ => r2_neD) (fe_ix (kIx K) (fun _ => r2_ix) (fe_var (pv 7)) (fe_var (pv 4))) fe_int) fa_nil))))) fa_nil)))))
    fss_nil)
    (fss_one (fs_ret (fe_callTy (kTuple K) (fun _ => ra_tuple) T.n_tuple (fa_cons (FN.fe (fn_lc [("row", 7)] rfl sc__law_drawn_table.nd (blkOk_by (by kernel_rfl)) (it_seq K (ke_call (T.ok__law_every (P := P) (base := base)) hgd (hr.mono (by omega)) T.g__law_every T.F__law_every.kp T.b__law_every hx (fa_cons (fe_var (pv 1)) fa_nil))) (fun _ _ _ _ _ => (gt_name (pg_name (i := 7) sc__law_drawn_table.nd rfl (by first | exact .inl rfl | exact .inr rfl)))) (fun _ _ _ _ _ => fts_nil) (fun _ _ _ _ _ => (ke_call (T.ok__law_take (P := P) (base := base)) hgd (hr.mono (by omega)) T.g__law_take T.F__law_take.kp T.b__law_take (passAll passL) (fa_cons (fe_var (pv 0)) (fa_cons fe_int fa_nil)))))) fa_nil))))))))⟩
theorem Tx.ok__law_told (T : Tx w K mg) : FnG P w K mg base 4 T.f__law_told T.d__law_told ["word"] (spM K mg 1 m__law_told) := by
  refine ok_def T.F__law_told sc__law_told fun cdv A outer s H E hgd hr => ?_
  have tk := takes_def (P := P) (w := w) (K := K) (mg := mg) (base := base) (N := ["word", "e"]) (qual := "_law_told") (sc := defScope s__law_told) (f := T.f__law_told) (cd := cdv) (A := A) (outer := outer) (s := s) (H := H) (E := E)
  have hx := passAll (passes_call (E := E) tk (fun _ _ _ _ h => h))
  have hu := hu_of2 hr
  exact ⟨_, fun G => (fss_one (fs_tryB (i := 1) rfl rfl sc__law_told.nd rfl rfl rfl (fun W pn xe tk => have hx := fun σ => passAt tk σ
    (fb_ret (fe_tup (fa_cons fe_str (fa_cons (ke_call (T.ok_table_of (P := P) (base := base)) hgd (hr.mono (by omega)) T.g_table_of T.F_table_of.kp T.b_table_of hx (fa_cons (fe_var (pv 0)) fa_nil)) fa_nil)))))
    (.cons ⟨by rfl, by decide, .inl T.x_Undefined.gC⟩ (tb_cons ⟨_, T.x_InvalidRelation.gC, T.em_InvalidRelation_Undefined⟩ (tb_cons ⟨_, T.x_InvalidBook.gC, T.em_InvalidBook_Undefined⟩ (tb_cons ⟨_, T.x_InvalidTable.gC, T.em_InvalidTable_Undefined⟩ (tb_cons ⟨_, T.x_Undefined.gC, T.em_Undefined_Undefined⟩ tb_nil)))) (fun G1 a oe cls d pn hz hf hp => (fss_one (fs_ret (fe_tup (fa_cons fe_str (fa_cons (fe_fld hz hf hp (pv 1) (tb_cons ⟨_, _, _, T.x_Undefined, by simp⟩ tb_nil)) (fa_cons (fe_xis hz hf hp (pv 1) T.n_isinstance (clsN_own T.g_CellError) (tb_cons ⟨_, T.x_InvalidRelation.gC, T.x_InvalidRelation.is, T.kt_0⟩ (tb_cons ⟨_, T.x_InvalidBook.gC, T.x_InvalidBook.is, T.kt_1⟩ (tb_cons ⟨_, T.x_InvalidTable.gC, T.x_InvalidTable.is, T.kt_2⟩ (tb_cons ⟨_, T.x_Undefined.gC, T.x_Undefined.is, T.kt_3⟩ tb_nil))))) fa_nil))))))) .nil)))⟩
theorem Tx.ok__law_blamed (T : Tx w K mg) : FnG P w K mg base 4 T.f__law_blamed T.d__law_blamed ["book"] (spM K mg 1 m__law_blamed) := by
  refine ok_def T.F__law_blamed sc__law_blamed fun cdv A outer s H E hgd hr => ?_
  have tk := takes_def (P := P) (w := w) (K := K) (mg := mg) (base := base) (N := ["book", "found", "word", "table", "pairs", "r", "shown"]) (qual := "_law_blamed") (sc := defScope s__law_blamed) (f := T.f__law_blamed) (cd := cdv) (A := A) (outer := outer) (s := s) (H := H) (E := E)
  have hx := passAll (passes_call (E := E) tk (fun _ _ _ _ h => h))
  have hu := hu_of2 hr
  exact ⟨_, fun G => (fss_cons (fs_setO (i := 1) sc__law_blamed.nd rfl (by first | exact .inl rfl | exact .inr rfl) (fn_lst fa_nil))
    (fss_cons (fs_forV own_def rfl (it_seq K (ke_call0 (T.ok__law_six (P := P) (base := base)) hgd (hr.mono (by omega)) T.g__law_six T.F__law_six.kp T.b__law_six hx)) (gk_un K (fgs_cons (fg_name (pg_name (i := 2) sc__law_blamed.nd rfl (by first | exact .inl rfl | exact .inr rfl))) (fgs_cons (fg_name (pg_name (i := 3) sc__law_blamed.nd rfl (by first | exact .inl rfl | exact .inr rfl))) fgs_nil (pgs_cons (pg_name (i := 3) sc__law_blamed.nd rfl (by first | exact .inl rfl | exact .inr rfl)) pgs_nil)) (pgs_cons (pg_name (i := 2) sc__law_blamed.nd rfl (by first | exact .inl rfl | exact .inr rfl)) (pgs_cons (pg_name (i := 3) sc__law_blamed.nd rfl (by first | exact .inl rfl | exact .inr rfl)) pgs_nil))) (pg_tup rfl (pgs_cons (pg_name (i := 2) sc__law_blamed.nd rfl (by first | exact .inl rfl | exact .inr rfl)) (pgs_cons (pg_name (i := 3) sc__law_blamed.nd rfl (by first | exact .inl rfl | exact .inr rfl)) pgs_nil))) (pg_lst rfl (pgs_cons (pg_name (i := 2) sc__law_blamed.nd rfl (by first | exact .inl rfl | exact .inr rfl)) (pgs_cons (pg_name (i := 3) sc__law_blamed.nd rfl (by first | exact .inl rfl | exact .inr rfl)) pgs_nil))))
    (fss_cons (fs_setO (i := 4) sc__law_blamed.nd rfl (by first | exact .inl rfl | exact .inr rfl) (fn_lst fa_nil))
    (fss_cons (fs_forV own_def rfl (fit_range1 T.n_range (fa_cons (fe_callB (kLen K) (fun _ => ra_len) T.n_len (fa_cons (fe_var (pv 0)) fa_nil)) fa_nil)) (fg_name (pg_name (i := 5) sc__law_blamed.nd rfl (by first | exact .inl rfl | exact .inr rfl)))
    (fss_cons (fs_setV (i := 6) sc__law_blamed.nd rfl (by first | exact .inl rfl | exact .inr rfl) (ke_call (T.ok__law_break (P := P) (base := base)) hgd (hr.mono (by omega)) T.g__law_break T.F__law_break.kp T.b__law_break hx (fa_cons (fe_ix (kIx K) (fun _ => r2_ix) (fe_var (pv 0)) (fe_var (pv 5))) (fa_cons (fe_var (pv 3)) (fa_cons (ke_call (T.ok__law_places_of (P := P) (base := base)) hgd (hr.mono (by omega)) T.g__law_places_of T.F__law_places_of.kp T.b__law_places_of hx (fa_cons (fe_var (pv 3)) fa_nil)) fa_nil)))))
    (fss_one (fs_if (ft_cmp op_isN2 (fun _ => r2_isN2) (fe_var (pv 6)) fe_non)
    (fss_one (fs_app (pv 4) (fe_tup (fa_cons (fe_var (pv 5)) (fa_cons (fe_var (pv 6)) fa_nil)))))
    fss_nil))))
    (fss_frz 4 (fss_one (fs_app (pv 1) (fe_callTy (kTuple K) (fun _ => ra_tuple) T.n_tuple (fa_cons (fe_var (pv 4)) fa_nil))))))))
    (fss_frz 1 (fss_one (fs_ret (fe_callTy (kTuple K) (fun _ => ra_tuple) T.n_tuple (fa_cons (fe_var (pv 1)) fa_nil)))))))⟩
theorem Tx.ok_law (T : Tx w K mg) : FnG P w K mg base 7 T.f_law T.d_law ["script"] (spM K mg 1 m_law) := by
  refine ok_def T.F_law sc_law fun cdv A outer s H E hgd hr => ?_
  have tk := takes_def (P := P) (w := w) (K := K) (mg := mg) (base := base) (N := ["script", "hand", "book", "made", "due", "words", "kept", "word", "table", "odd", "m", "k", "row"]) (qual := "law") (sc := defScope s_law) (f := T.f_law) (cd := cdv) (A := A) (outer := outer) (s := s) (H := H) (E := E)
  have hx := passAll (passes_call (E := E) tk (fun _ _ _ _ h => h))
  have hu := hu_of2 hr
  exact ⟨_, fun G => (fss_cons (fs_setS (i := 1) sc_law.nd rfl (by first | exact .inl rfl | exact .inr rfl) (fn_lst (fa_cons (ke_call (T.ok__law_draws (P := P) (base := base)) hgd (hr.mono (by omega)) T.g__law_draws T.F__law_draws.kp T.b__law_draws hx (fa_cons (fe_var (pv 0)) (fa_cons fe_int fa_nil))) (fa_cons fe_int fa_nil))))
    (fss_cons (fs_setV (i := 2) sc_law.nd rfl (by first | exact .inl rfl | exact .inr rfl) (ke_call (T.ok__law_drawn_book (P := P) (base := base)) hgd (hr.mono (by omega)) T.g__law_drawn_book T.F__law_drawn_book.kp T.b__law_drawn_book hx (fa_cons (fe_var (pv 1)) fa_nil)))
    (fss_cons (fs_setV (i := 3) sc_law.nd rfl (by first | exact .inl rfl | exact .inr rfl) (ke_call (T.ok__law_book (P := P) (base := base)) hgd (hr.mono (by omega)) T.g__law_book T.F__law_book.kp T.b__law_book hx (fa_cons (fe_var (pv 2)) fa_nil)))
    (fss_cons (fs_setV (i := 4) sc_law.nd rfl (by first | exact .inl rfl | exact .inr rfl) (ke_call (T.ok__law_blamed (P := P) (base := base)) hgd (hr.mono (by omega)) T.g__law_blamed T.F__law_blamed.kp T.b__law_blamed hx (fa_cons (fe_var (pv 2)) fa_nil)))
    (fss_cons (fs_setV (i := 5) sc_law.nd rfl (by first | exact .inl rfl | exact .inr rfl) (FN.fe (fn_lc [("word", 7), ("table", 8)] rfl sc_law.nd (blkOk_by (by kernel_rfl)) (it_seq K (ke_call0 (T.ok__law_six (P := P) (base := base)) hgd (hr.mono (by omega)) T.g__law_six T.F__law_six.kp T.b__law_six hx)) (fun _ _ _ _ _ => (gk_tup K (gts_cons (gt_name (pg_name (i := 7) sc_law.nd rfl (by first | exact .inl rfl | exact .inr rfl))) (gts_cons (gt_name (pg_name (i := 8) sc_law.nd rfl (by first | exact .inl rfl | exact .inr rfl))) gts_nil (pgs_cons (pg_name (i := 8) sc_law.nd rfl (by first | exact .inl rfl | exact .inr rfl)) pgs_nil)) (pgs_cons (pg_name (i := 7) sc_law.nd rfl (by first | exact .inl rfl | exact .inr rfl)) (pgs_cons (pg_name (i := 8) sc_law.nd rfl (by first | exact .inl rfl | exact .inr rfl)) pgs_nil))) (pg_tup rfl (pgs_cons (pg_name (i := 7) sc_law.nd rfl (by first | exact .inl rfl | exact .inr rfl)) (pgs_cons (pg_name (i := 8) sc_law.nd rfl (by first | exact .inl rfl | exact .inr rfl)) pgs_nil))))) (fun _ _ _ _ _ => fts_nil) (fun _ _ _ _ _ => (fe_var (pv 7))))))
    (fss_cons (fs_setV (i := 6) sc_law.nd rfl (by first | exact .inl rfl | exact .inr rfl) (fe_callTy (kTuple K) (fun _ => ra_tuple) T.n_tuple (fa_cons (FN.fe (fn_lc [("k", 11)] rfl sc_law.nd (blkOk_by (by kernel_rfl)) (fit_range1 T.n_range (fa_cons fe_int fa_nil)) (fun _ _ _ _ _ => (gt_name (pg_name (i := 11) sc_law.nd rfl (by first | exact .inl rfl | exact .inr rfl)))) (fun _ _ _ _ _ => (fts_one (ft_cmp (kEqD K hu) (fun _ => r2_eqD) (fe_ix (kIx K) (fun _ => r2_ix) (fe_var (pv 4)) (fe_var (pv 11))) (fe_tup fa_nil)))) (fun _ _ _ _ _ => (fe_ix (kIx K) (fun _ => r2_ix) (fe_var (pv 5)) (fe_var (pv 11)))))) fa_nil)))
    (fss_cons (fs_if (FT.ofW (fw_or (ft_cmp (kNeD K hu) (fun _ => r2_neD) (fe_callB (kReprU K hu hgd) (fun _ => ra_repr) T.n_repr (fa_cons (ke_callD (T.ok_kept_by (P := P) (base := base)) hgd (hr.mono (by omega)) T.g_kept_by T.F_kept_by.kp T.b_kept_by T.vd_kept_by (fun _ _ => ⟨_, _, rfl, rfl, rfl⟩) hx (fa_cons (fe_var (pv 3)) fa_nil)) fa_nil)) (fe_callB (kReprU K hu hgd) (fun _ => ra_repr) T.n_repr (fa_cons (fe_var (pv 6)) fa_nil))) (fw_or1 (ft_cmp (kNeD K hu) (fun _ => r2_neD) (fe_callB (kReprU K hu hgd) (fun _ => ra_repr) T.n_repr (fa_cons (ke_callK (T.ok_kept_by (P := P) (base := base)) hgd (hr.mono (by omega)) T.g_kept_by T.F_kept_by.kp T.kb_kept_by_1 (kbG_rv K) hx (fa_cons (fe_var (pv 3)) fa_nil) (fk_cons fe_bl fk_nil)) fa_nil)) (fe_callB (kReprU K hu hgd) (fun _ => ra_repr) T.n_repr (fa_cons (fe_var (pv 6)) fa_nil))))))
    (fss_one (fs_ret fe_bl))
    fss_nil)
    (fss_cons (fs_if (ft_cmp (kNeD K hu) (fun _ => r2_neD) (fe_callB (kReprU K hu hgd) (fun _ => ra_repr) T.n_repr (fa_cons (ke_callK0 (T.ok_kept_by (P := P) (base := base)) hgd (hr.mono (by omega)) T.g_kept_by T.F_kept_by.kp T.kb_kept_by_0 (kbG_rv K) hx (fk_cons (fe_var (pv 3)) (fk_cons fe_bl fk_nil))) fa_nil)) (fe_callB (kReprU K hu hgd) (fun _ => ra_repr) T.n_repr (fa_cons (fe_callTy (kTuple K) (fun _ => ra_tuple) T.n_tuple (fa_cons (FN.fe (fn_lc [("word", 7)] rfl sc_law.nd (blkOk_by (by kernel_rfl)) (it_seq K (fe_var (pv 6))) (fun _ _ _ _ _ => (gt_name (pg_name (i := 7) sc_law.nd rfl (by first | exact .inl rfl | exact .inr rfl)))) (fun _ _ _ _ _ => (fts_one (ft_cmp (kInD K hu) (fun _ => r2_inA) (fe_var (pv 7)) (fe_slice (kSl K) (fun _ => rsl) (fe_var (pv 5)) (fo_some fe_int) fo_none)))) (fun _ _ _ _ _ => (fe_var (pv 7))))) fa_nil)) fa_nil)))
    (fss_one (fs_ret fe_bl))
    fss_nil)
    (fss_cons (fs_if (ft_cmp (kNeD K hu) (fun _ => r2_neD) (fe_callB (kReprU K hu hgd) (fun _ => ra_repr) T.n_repr (fa_cons (ke_call (T.ok_blamed (P := P) (base := base)) hgd (hr.mono (by omega)) T.g_blamed T.F_blamed.kp T.b_blamed hx (fa_cons (fe_var (pv 3)) fa_nil)) fa_nil)) (fe_callB (kReprU K hu hgd) (fun _ => ra_repr) T.n_repr (fa_cons (fe_var (pv 4)) fa_nil)))
    (fss_one (fs_ret fe_bl))
    fss_nil)
    (fss_cons (fs_forV own_def rfl (it_seq K (ke_call0 (T.ok__law_six (P := P) (base := base)) hgd (hr.mono (by omega)) T.g__law_six T.F__law_six.kp T.b__law_six hx)) (gk_un K (fgs_cons (fg_name (pg_name (i := 7) sc_law.nd rfl (by first | exact .inl rfl | exact .inr rfl))) (fgs_cons (fg_name (pg_name (i := 8) sc_law.nd rfl (by first | exact .inl rfl | exact .inr rfl))) fgs_nil (pgs_cons (pg_name (i := 8) sc_law.nd rfl (by first | exact .inl rfl | exact .inr rfl)) pgs_nil)) (pgs_cons (pg_name (i := 7) sc_law.nd rfl (by first | exact .inl rfl | exact .inr rfl)) (pgs_cons (pg_name (i := 8) sc_law.nd rfl (by first | exact .inl rfl | exact .inr rfl)) pgs_nil))) (pg_tup rfl (pgs_cons (pg_name (i := 7) sc_law.nd rfl (by first | exact .inl rfl | exact .inr rfl)) (pgs_cons (pg_name (i := 8) sc_law.nd rfl (by first | exact .inl rfl | exact .inr rfl)) pgs_nil))) (pg_lst rfl (pgs_cons (pg_name (i := 7) sc_law.nd rfl (by first | exact .inl rfl | exact .inr rfl)) (pgs_cons (pg_name (i := 8) sc_law.nd rfl (by first | exact .inl rfl | exact .inr rfl)) pgs_nil))))
    (fss_one (fs_if (ft_cmp (kNeD K hu) (fun _ => r2_neD) (fe_callB (kReprU K hu hgd) (fun _ => ra_repr) T.n_repr (fa_cons (ke_call (T.ok_table_of (P := P) (base := base)) hgd (hr.mono (by omega)) T.g_table_of T.F_table_of.kp T.b_table_of hx (fa_cons (fe_var (pv 7)) fa_nil)) fa_nil)) (fe_callB (kReprU K hu hgd) (fun _ => ra_repr) T.n_repr (fa_cons (fe_var (pv 8)) fa_nil)))
    (fss_one (fs_ret fe_bl))
    fss_nil)))
    (fss_cons (fs_setV (i := 9) sc_law.nd rfl (by first | exact .inl rfl | exact .inr rfl) (fe_ix (kIx K) (fun _ => r2_ix) (FN.fe (fn_lst (fa_cons fe_str (fa_cons fe_str (fa_cons fe_str (fa_cons fe_str (fa_cons fe_str (fa_cons fe_str (fa_cons fe_str (fa_cons fe_non (fa_cons fe_int (fa_cons (fe_tup (fa_cons fe_str fa_nil)) (fa_cons fe_bl (fa_cons (FN.fe (fn_lst fa_nil)) (fa_cons (FN.fe (fn_lst (fa_cons fe_str fa_nil))) fa_nil))))))))))))))) (ke_call (T.ok__law_take (P := P) (base := base)) hgd (hr.mono (by omega)) T.g__law_take T.F__law_take.kp T.b__law_take hx (fa_cons (fe_var (pv 1)) (fa_cons fe_int fa_nil)))))
    (fss_cons (fs_if (ft_cmp (kNeD K hu) (fun _ => r2_neD) (ke_call (T.ok__law_told (P := P) (base := base)) hgd (hr.mono (by omega)) T.g__law_told T.F__law_told.kp T.b__law_told hx (fa_cons (fe_var (pv 9)) fa_nil)) (fe_tup (fa_cons fe_str (fa_cons fe_str (fa_cons fe_bl fa_nil)))))
    (fss_one (fs_ret fe_bl))
    fss_nil)
    (fss_cons (fs_setV (i := 10) sc_law.nd rfl (by first | exact .inl rfl | exact .inr rfl) (fe_op (kAdd K) (fun _ => r2_addA) fe_int (ke_call (T.ok__law_take (P := P) (base := base)) hgd (hr.mono (by omega)) T.g__law_take T.F__law_take.kp T.b__law_take hx (fa_cons (fe_var (pv 1)) (fa_cons fe_int fa_nil)))))
    (fss_cons (fs_setV (i := 8) sc_law.nd rfl (by first | exact .inl rfl | exact .inr rfl) (ke_call (T.ok__law_drawn_table (P := P) (base := base)) hgd (hr.mono (by omega)) T.g__law_drawn_table T.F__law_drawn_table.kp T.b__law_drawn_table hx (fa_cons (fe_var (pv 1)) (fa_cons (fe_var (pv 10)) fa_nil))))
    (fss_cons (fs_setV (i := 4) sc_law.nd rfl (by first | exact .inl rfl | exact .inr rfl) (fe_callTy (kTuple K) (fun _ => ra_tuple) T.n_tuple (fa_cons (FN.fe (fn_lc [("row", 12)] rfl sc_law.nd (blkOk_by (by kernel_rfl)) (it_seq K (ke_call (T.ok__law_every (P := P) (base := base)) hgd (hr.mono (by omega)) T.g__law_every T.F__law_every.kp T.b__law_every hx (fa_cons fe_int fa_nil))) (fun _ _ _ _ _ => (gt_name (pg_name (i := 12) sc_law.nd rfl (by first | exact .inl rfl | exact .inr rfl)))) (fun _ _ _ _ _ => fts_nil) (fun _ _ _ _ _ => (fe_ix (kIx K) (fun _ => r2_ix) (fe_var (pv 8)) (ke_call (T.ok__law_place (P := P) (base := base)) hgd (hr.mono (by omega)) T.g__law_place T.F__law_place.kp T.b__law_place (passAll passL) (fa_cons (fe_slice (kSl K) (fun _ => rsl) (fe_var (pv 12)) fo_none (fo_some (fe_var (pv 10)))) fa_nil)))))) fa_nil)))
    (fss_one (fs_ret (fe_and (fe_cmp (kEqD K hu) (fun _ => r2_eqD) (fe_callB (kReprU K hu hgd) (fun _ => ra_repr) T.n_repr (fa_cons (ke_callK0 (T.ok_widened (P := P) (base := base)) hgd (hr.mono (by omega)) T.g_widened T.F_widened.kp T.kb_widened_0 (kbG_rv K) hx (fk_cons (fe_var (pv 8)) fk_nil)) fa_nil)) (fe_callB (kReprU K hu hgd) (fun _ => ra_repr) T.n_repr (fa_cons (fe_var (pv 4)) fa_nil))) (fe_one (fe_cmp (kEqD K hu) (fun _ => r2_eqD) (fe_callB (kReprU K hu hgd) (fun _ => ra_repr) T.n_repr (fa_cons (ke_callK0 (T.ok_table_of (P := P) (base := base)) hgd (hr.mono (by omega)) T.g_table_of T.F_table_of.kp T.kb_table_of_0 (kbG_rv K) hx (fk_cons fe_str fk_nil)) fa_nil)) (fe_callB (kReprU K hu hgd) (fun _ => ra_repr) T.n_repr (fa_cons (fe_tup (fa_cons fe_int (fa_cons fe_int (fa_cons fe_int (fa_cons fe_int fa_nil))))) fa_nil))))))))))))))))))))))⟩
end
end K04
set_option maxHeartbeats 4000000
/-! MirG: the hand of the later laws: a dict of cells, what is left of them, and the turn. -/
namespace Mir
open PySem L2
section
variable {ρ : Rho} {S : Store} {i : Nat} {a b : Rho → Store → Res PV} {n : Rho → Store → Res SO} {as : Rho → Store → Res (List PV)} {ks : List Key}
theorem ev_shr : mShr n ρ S = (n ρ S).bind fun o S1 => .ok (.obj S1.length) (S1 ++ [o]) := nrfl rfl
theorem ev_disp : mDisp ks as ρ S = (as ρ S).bind fun xs S1 => if xs.length = ks.length then .ok (.dk ks xs) S1 else .bad := nrfl rfl
theorem ev_dput : mDPut i b a ρ S = (a ρ S).bind fun y S1 => match ρ[i]? with
  | some (.own (.dk ks xs)) => (b ρ S1).bind fun k S2 => setK i ks xs y ρ k S2
  | some (.val (.obj n)) => (b ρ S1).bind fun k S2 => setKO n y ρ k S2
  | _ => .bad := nrfl rfl
theorem ev_tru : mTru a ρ S = (a ρ S).bind gTru := nrfl rfl
theorem ev_dget {x y : PV} : gDGet x y S = gDGet x y S := rfl
theorem ev_rangeG : gRange1 [] S = .bad := rfl
end
def handKs : List Key := [.inr "cells", .inr "left", .inr "turn"]
/-- the hand as an object of the store -/
def handO (cs : List Int) (t : Int) : SO := .dk handKs [.lst (cs.map PV.int), .obj 0, .int t]
def Hand2 (S R : Store) : Prop := ∃ (cs ls : List Int) (t : Int), S = .lst (ls.map PV.int) :: handO cs t :: R ∧ ls.length = cs.length ∧ 0 ≤ t
theorem hand_cells (L : SO) (cs : List Int) (t : Int) (R : Store) : gDGet (.obj 1) (.str "cells") (L :: handO cs t :: R) = .ok (.lst (cs.map PV.int)) (L :: handO cs t :: R) := by kernel_rfl
theorem hand_left (L : SO) (cs : List Int) (t : Int) (R : Store) : gDGet (.obj 1) (.str "left") (L :: handO cs t :: R) = .ok (.obj 0) (L :: handO cs t :: R) := by kernel_rfl
theorem hand_turn (L : SO) (cs : List Int) (t : Int) (R : Store) : gDGet (.obj 1) (.str "turn") (L :: handO cs t :: R) = .ok (.int t) (L :: handO cs t :: R) := by kernel_rfl
theorem hand_put (L : SO) (cs : List Int) (t u : Int) (R : Store) (ρ : Rho) : setKO 1 (.int u) ρ (.str "turn") (L :: handO cs t :: R) = .ok (.nx ρ) (L :: handO cs u :: R) := by kernel_rfl
def B_hand : Rho → Store → Res Out :=
  (mSeq (mSet 1 (mFrz (mLc (mSeqOf (mVar 0)) (gNm 2) mTrue (mArgs gAbs (mCons (mArgs gInt (mCons (mVar 2) mNil)) mNil)) [2])))
    (mRet (mShr (mDisp [.inr "cells", .inr "left", .inr "turn"] (mCons (mVar 1) (mCons (mShr (mArgs gList (mCons (mVar 1) mNil))) (mCons (mC (.int 0)) mNil)))))))
theorem hand2_ok {ns : List Int} (hl : ns.length ≤ 1000) : ∃ S, mDef 3 B_hand [.cl (ns.map PV.int)] [] = .ok (.obj 1) S ∧ Hand2 S [] := by
  have lc : mLcGo (gNm 2) mTrue (mArgs gAbs (mCons (mArgs gInt (mCons (mVar 2) mNil)) mNil)) [.val (.cl (ns.map PV.int)), .none, .none] (ns.map PV.int) [] = .ok ((ns.map fun i => if i < 0 then -i else i).map PV.int) [] := by
    have := lc_map (g := gNm 2) (t := mTrue) (a := mArgs gAbs (mCons (mArgs gInt (mCons (mVar 2) mNil)) mNil)) (ρ := [.val (.cl (ns.map PV.int)), .none, .none]) (S := []) (xs := ns.map PV.int)
      (fun x => match x with | .int i => .int (if i < 0 then -i else i) | x => x) fun x hx => by
        obtain ⟨i, _, rfl⟩ := List.mem_map.mp hx
        exact ⟨_, rfl, rfl, rfl⟩
    rw [this, List.map_map, List.map_map]
    rfl
  refine ⟨[.lst ((ns.map fun i => if i < 0 then -i else i).map PV.int), handO (ns.map fun i => if i < 0 then -i else i) 0], ?_, ns.map fun i => if i < 0 then -i else i, ns.map fun i => if i < 0 then -i else i, 0, rfl, rfl, Int.le_refl _⟩
  show (B_hand [.val (.cl (ns.map PV.int)), .none, .none] []).bind toRet = _
  unfold B_hand
  simp only [ev_bind, ev_nox, ev_seq, ev_set, ev_setOwn, ev_share, ev_drop, ev_ret, ev_retOwn, ev_skip, ev_brk, ev_cnt, ev_ifS, ev_frzS, ev_append, ev_setIx, ev_for, ev_lc, ev_seqOf, ev_range, ev_var, ev_c, ev_op, ev_un, ev_args, ev_nil, ev_cons, ev_frz, ev_b, ev_and, ev_or, ev_not, ev_andV, ev_orV, ev_notV, ev_if, ev_chain, ev_isi, ev_ixOwn, ev_lenOwn, ev_call, ev_callK, ev_sl, ev_part, ev_true, ev_nm, ev_toB, frz, frzAt, toSeq_tup, toSeq_lst, toSeq_cl, toRet, mWipe, kbG, Mir.gTup, Mir.gLst, List.getElem?_cons_zero, List.getElem?_cons_succ, List.set_cons_zero, List.set_cons_succ, List.length_cons, List.length_nil, List.append_nil, List.nil_append, List.cons_append, Nat.reduceAdd, Nat.reduceLeDiff, Nat.reduceEqDiff, Nat.zero_add, reduceIte, Bool.false_eq_true, Bool.not_true, Bool.not_false, and_self, sizeM_eq, lc, List.length_map, show ns.length ≤ 100000 by omega, ev_shr, ev_disp, gList]
  rfl
def B_draw : Rho → Store → Res Out :=
  (mSeq (mSet 2 (mOp gDGet (mVar 0) (mC (.str "turn"))))
    (mSeq (mDPut 0 (mC (.str "turn")) (mOp gAddA (mVar 2) (mC (.int 1))))
    (mSeq (mSet 3 (mOp gDGet (mVar 0) (mC (.str "cells"))))
    (mSeq (mSet 4 (mOp gDGet (mVar 0) (mC (.str "left"))))
    (mSeq (mSet 5 (mC (.int 0)))
    (mSeq (mIfS (mB (mOp gGt (mArgs gLen (mCons (mVar 3) mNil)) (mC (.int 0))))
    (mSeq (mSet 7 (mOp gMod (mArgs gInt (mCons (mVar 2) mNil)) (mArgs gLen (mCons (mVar 3) mNil))))
    (mSeq (mSet 5 (mOp gIx (mVar 3) (mVar 7)))
    (mIfS (mAnd (mB (mOp gGeA (mVar 5) (mOp gPow (mC (.int 10)) (mC (.int 18))))) (mB (mOp gGt (mOp gIx (mVar 4) (mVar 7)) (mC (.int 0)))))
    (mSeq (mSet 8 (mOp gIx (mVar 4) (mVar 7)))
    (mSeq (mSetIx 4 (mVar 7) (mOp gFdiv (mArgs gInt (mCons (mVar 8) mNil)) (mVar 1)))
    (mRet (mOp gMod (mArgs gInt (mCons (mVar 8) mNil)) (mVar 1)))))
    mSkip)))
    mSkip)
    (mSeq (mSet 6 (mOp gMod (mArgs gInt (mCons (mOp gAddA (mOp gAddA (mOp gMulA (mVar 5) (mC (.int 40014))) (mOp gMulA (mVar 2) (mC (.int 52774)))) (mC (.int 3791))) mNil)) (mC (.int 2147483563))))
    (mSeq (mSet 6 (mOp gMod (mArgs gInt (mCons (mOp gAddA (mOp gAddA (mOp gFdiv (mOp gMulA (mVar 6) (mVar 6)) (mC (.int 2048))) (mOp gMulA (mVar 6) (mC (.int 40692)))) (mVar 2)) mNil)) (mC (.int 2147483399))))
    (mRet (mOp gMod (mOp gFdiv (mArgs gInt (mCons (mOp gAddA (mOp gFdiv (mOp gMulA (mVar 6) (mVar 6)) (mC (.int 8192))) (mVar 6)) mNil)) (mC (.int 3))) (mVar 1)))))))))))
/-- the part behind the cell -/
def B_mixD : Rho → Store → Res Out :=
    (mSeq (mSet 6 (mOp gMod (mArgs gInt (mCons (mOp gAddA (mOp gAddA (mOp gMulA (mVar 5) (mC (.int 40014))) (mOp gMulA (mVar 2) (mC (.int 52774)))) (mC (.int 3791))) mNil)) (mC (.int 2147483563))))
    (mSeq (mSet 6 (mOp gMod (mArgs gInt (mCons (mOp gAddA (mOp gAddA (mOp gFdiv (mOp gMulA (mVar 6) (mVar 6)) (mC (.int 2048))) (mOp gMulA (mVar 6) (mC (.int 40692)))) (mVar 2)) mNil)) (mC (.int 2147483399))))
    (mRet (mOp gMod (mOp gFdiv (mArgs gInt (mCons (mOp gAddA (mOp gFdiv (mOp gMulA (mVar 6) (mVar 6)) (mC (.int 8192))) (mVar 6)) mNil)) (mC (.int 3))) (mVar 1)))))
theorem mixD_ok {many : Int} (hm : 0 < many) (p0 s3 s4 s6 s7 s8 : Slot) (t c : Int) (S : Store) : ∃ v, 0 ≤ v ∧ v < many ∧ B_mixD [p0, .val (.int many), .val (.int t), s3, s4, .val (.int c), s6, s7, s8] S = .ok (.rt (.int v)) S := by
  have w1 : small64 40014 = true := by decide
  have w2 : small64 52774 = true := by decide
  have w3 : small64 40692 = true := by decide
  have e1 := Int.emod_nonneg (c * 40014 + t * 52774 + 3791) (show (2147483563 : Int) ≠ 0 by decide)
  have e2 := Int.emod_lt_of_pos (c * 40014 + t * 52774 + 3791) (show (0 : Int) < 2147483563 by decide)
  generalize hA : (c * 40014 + t * 52774 + 3791) % 2147483563 = A at e1 e2
  have f1 := Int.emod_nonneg (A * A / 2048 + A * 40692 + t) (show (2147483399 : Int) ≠ 0 by decide)
  have f2 := Int.emod_lt_of_pos (A * A / 2048 + A * 40692 + t) (show (0 : Int) < 2147483399 by decide)
  generalize hB : (A * A / 2048 + A * 40692 + t) % 2147483399 = B at f1 f2
  have sA : small64 A = true := small64_ok (by omega) (by omega)
  have sB : small64 B = true := small64_ok (by omega) (by omega)
  refine ⟨(B * B / 8192 + B) / 3 % many, Int.emod_nonneg _ (by omega), Int.emod_lt_of_pos _ hm, ?_⟩
  unfold B_mixD
  simp only [ev_bind, ev_nox, ev_seq, ev_set, ev_setOwn, ev_share, ev_drop, ev_ret, ev_retOwn, ev_skip, ev_brk, ev_cnt, ev_ifS, ev_frzS, ev_append, ev_setIx, ev_for, ev_lc, ev_seqOf, ev_range, ev_var, ev_c, ev_op, ev_un, ev_args, ev_nil, ev_cons, ev_frz, ev_b, ev_and, ev_or, ev_not, ev_andV, ev_orV, ev_notV, ev_if, ev_chain, ev_isi, ev_ixOwn, ev_lenOwn, ev_call, ev_callK, ev_sl, ev_part, ev_true, ev_nm, ev_toB, frz, frzAt, toSeq_tup, toSeq_lst, toSeq_cl, toRet, mWipe, kbG, Mir.gTup, Mir.gLst, List.getElem?_cons_zero, List.getElem?_cons_succ, List.set_cons_zero, List.set_cons_succ, List.length_cons, List.length_nil, List.append_nil, List.nil_append, List.cons_append, Nat.reduceAdd, Nat.reduceLeDiff, Nat.reduceEqDiff, Nat.zero_add, reduceIte, Bool.false_eq_true, Bool.not_true, Bool.not_false, and_self, sizeM_eq, gAddA, gAdd, gMulA, gMul, Mir.gSub, gFdiv, gMod, gLt, gLe, gGt, geA_int, gLen, gInt, gAbs, gNeg, w1, w2, w3, Bool.or_true, hA, sA, hB, sB, show (0 : Int) < 2147483563 by decide, show (0 : Int) < 2147483399 by decide, show (0 : Int) < 2048 by decide, show (2048 : Int) < 1073741824 by decide, show (0 : Int) < 8192 by decide, show (8192 : Int) < 1073741824 by decide, show (0 : Int) < 3 by decide, show (3 : Int) < 1073741824 by decide, decide_true, Bool.and_self, Bool.true_or, hm]
theorem draw_ok {S R : Store} {many : Int} (h : Hand2 S R) (hm : 0 < many) (hm2 : many < 1073741824) : ∃ v S', mDef 9 B_draw [.obj 1, .int many] S = .ok (.int v) S' ∧ Hand2 S' R ∧ 0 ≤ v ∧ v < many := by
  obtain ⟨cs, ls, t, rfl, hl, ht⟩ := h
  have p18 : cpow 10 18 = true := by decide
  by_cases he : cs.length = 0
  · obtain ⟨v, v0, v1, ev⟩ := mixD_ok hm (.val (.obj 1)) (.val (.lst (cs.map PV.int))) (.val (.obj 0)) .none .none .none t 0 (.lst (ls.map PV.int) :: handO cs (t + 1) :: R)
    refine ⟨v, .lst (ls.map PV.int) :: handO cs (t + 1) :: R, ?_, ⟨cs, ls, t + 1, rfl, hl, by omega⟩, v0, v1⟩
    show (B_draw [.val (.obj 1), .val (.int many), .none, .none, .none, .none, .none, .none, .none] _).bind toRet = _
    unfold B_mixD at ev
    unfold B_draw
    simp only [ev_bind, ev_nox, ev_seq, ev_set, ev_setOwn, ev_share, ev_drop, ev_ret, ev_retOwn, ev_skip, ev_brk, ev_cnt, ev_ifS, ev_frzS, ev_append, ev_setIx, ev_for, ev_lc, ev_seqOf, ev_range, ev_var, ev_c, ev_op, ev_un, ev_args, ev_nil, ev_cons, ev_frz, ev_b, ev_and, ev_or, ev_not, ev_andV, ev_orV, ev_notV, ev_if, ev_chain, ev_isi, ev_ixOwn, ev_lenOwn, ev_call, ev_callK, ev_sl, ev_part, ev_true, ev_nm, ev_toB, frz, frzAt, toSeq_tup, toSeq_lst, toSeq_cl, toRet, mWipe, kbG, Mir.gTup, Mir.gLst, List.getElem?_cons_zero, List.getElem?_cons_succ, List.set_cons_zero, List.set_cons_succ, List.length_cons, List.length_nil, List.append_nil, List.nil_append, List.cons_append, Nat.reduceAdd, Nat.reduceLeDiff, Nat.reduceEqDiff, Nat.zero_add, reduceIte, Bool.false_eq_true, Bool.not_true, Bool.not_false, and_self, sizeM_eq, gAddA, gAdd, gMulA, gMul, Mir.gSub, gFdiv, gMod, gLt, gLe, gGt, geA_int, gLen, gInt, gAbs, gNeg, hand_turn, ev_dput, hand_put, hand_cells, hand_left, List.length_map, show ¬ (0 : Int) < (cs.length : Int) by omega, decide_false]
    simp only [ev_bind, ev_nox, ev_seq, ev_set, ev_setOwn, ev_share, ev_drop, ev_ret, ev_retOwn, ev_skip, ev_brk, ev_cnt, ev_ifS, ev_frzS, ev_append, ev_setIx, ev_for, ev_lc, ev_seqOf, ev_range, ev_var, ev_c, ev_op, ev_un, ev_args, ev_nil, ev_cons, ev_frz, ev_b, ev_and, ev_or, ev_not, ev_andV, ev_orV, ev_notV, ev_if, ev_chain, ev_isi, ev_ixOwn, ev_lenOwn, ev_call, ev_callK, ev_sl, ev_part, ev_true, ev_nm, ev_toB, frz, frzAt, toSeq_tup, toSeq_lst, toSeq_cl, toRet, mWipe, kbG, Mir.gTup, Mir.gLst, List.getElem?_cons_zero, List.getElem?_cons_succ, List.set_cons_zero, List.set_cons_succ, List.length_cons, List.length_nil, List.append_nil, List.nil_append, List.cons_append, Nat.reduceAdd, Nat.reduceLeDiff, Nat.reduceEqDiff, Nat.zero_add, reduceIte, Bool.false_eq_true, Bool.not_true, Bool.not_false, and_self, sizeM_eq, gAddA, gAdd, gMulA, gMul, Mir.gSub, gFdiv, gMod, gLt, gLe, gGt, geA_int, gLen, gInt, gAbs, gNeg] at ev
    simp only [ev, ev_bind, ev_nox, ev_seq, ev_set, ev_setOwn, ev_share, ev_drop, ev_ret, ev_retOwn, ev_skip, ev_brk, ev_cnt, ev_ifS, ev_frzS, ev_append, ev_setIx, ev_for, ev_lc, ev_seqOf, ev_range, ev_var, ev_c, ev_op, ev_un, ev_args, ev_nil, ev_cons, ev_frz, ev_b, ev_and, ev_or, ev_not, ev_andV, ev_orV, ev_notV, ev_if, ev_chain, ev_isi, ev_ixOwn, ev_lenOwn, ev_call, ev_callK, ev_sl, ev_part, ev_true, ev_nm, ev_toB, frz, frzAt, toSeq_tup, toSeq_lst, toSeq_cl, toRet, mWipe, kbG, Mir.gTup, Mir.gLst, List.getElem?_cons_zero, List.getElem?_cons_succ, List.set_cons_zero, List.set_cons_succ, List.length_cons, List.length_nil, List.append_nil, List.nil_append, List.cons_append, Nat.reduceAdd, Nat.reduceLeDiff, Nat.reduceEqDiff, Nat.zero_add, reduceIte, Bool.false_eq_true, Bool.not_true, Bool.not_false, and_self, sizeM_eq]
  · have hpos : (0 : Int) < cs.length := by omega
    have m1 := Int.emod_nonneg t (show (cs.length : Int) ≠ 0 by omega)
    have m2 := Int.emod_lt_of_pos t hpos
    generalize hA : t % (cs.length : Int) = A at m1 m2
    obtain ⟨c, e1, _, _⟩ := atI_ints (ns := cs) m1 m2
    obtain ⟨r, e2, _, _⟩ := atI_ints (ns := ls) m1 (by omega)
    have ix : ixN ls.length A = some A.toNat := ixN_ok m1 (by omega)
    by_cases hc : (10 : Int) ^ (18 : Int).toNat ≤ c ∧ 0 < r
    · refine ⟨r % many, .lst ((ls.set A.toNat (r / many)).map PV.int) :: handO cs (t + 1) :: R, ?_, ⟨cs, _, t + 1, rfl, by simp [hl], by omega⟩, Int.emod_nonneg _ (by omega), Int.emod_lt_of_pos _ hm⟩
      show (B_draw [.val (.obj 1), .val (.int many), .none, .none, .none, .none, .none, .none, .none] _).bind toRet = _
      unfold B_draw
      simp only [ev_bind, ev_nox, ev_seq, ev_set, ev_setOwn, ev_share, ev_drop, ev_ret, ev_retOwn, ev_skip, ev_brk, ev_cnt, ev_ifS, ev_frzS, ev_append, ev_setIx, ev_for, ev_lc, ev_seqOf, ev_range, ev_var, ev_c, ev_op, ev_un, ev_args, ev_nil, ev_cons, ev_frz, ev_b, ev_and, ev_or, ev_not, ev_andV, ev_orV, ev_notV, ev_if, ev_chain, ev_isi, ev_ixOwn, ev_lenOwn, ev_call, ev_callK, ev_sl, ev_part, ev_true, ev_nm, ev_toB, frz, frzAt, toSeq_tup, toSeq_lst, toSeq_cl, toRet, mWipe, kbG, Mir.gTup, Mir.gLst, List.getElem?_cons_zero, List.getElem?_cons_succ, List.set_cons_zero, List.set_cons_succ, List.length_cons, List.length_nil, List.append_nil, List.nil_append, List.cons_append, Nat.reduceAdd, Nat.reduceLeDiff, Nat.reduceEqDiff, Nat.zero_add, reduceIte, Bool.false_eq_true, Bool.not_true, Bool.not_false, and_self, sizeM_eq, gAddA, gAdd, gMulA, gMul, Mir.gSub, gFdiv, gMod, gLt, gLe, gGt, geA_int, gLen, gInt, gAbs, gNeg, hand_turn, ev_dput, hand_put, hand_cells, hand_left, List.length_map, hpos, decide_true, hA, gIx, e1, e2, gPow, p18, hc.1, hc.2, hm, hm2, Bool.and_self, setIxO, ix, set_map]
    · obtain ⟨v, v0, v1, ev⟩ := mixD_ok hm (.val (.obj 1)) (.val (.lst (cs.map PV.int))) (.val (.obj 0)) .none (.val (.int A)) .none t c (.lst (ls.map PV.int) :: handO cs (t + 1) :: R)
      refine ⟨v, .lst (ls.map PV.int) :: handO cs (t + 1) :: R, ?_, ⟨cs, ls, t + 1, rfl, hl, by omega⟩, v0, v1⟩
      show (B_draw [.val (.obj 1), .val (.int many), .none, .none, .none, .none, .none, .none, .none] _).bind toRet = _
      unfold B_mixD at ev
      unfold B_draw
      by_cases hc1 : (10 : Int) ^ (18 : Int).toNat ≤ c
      · have hc2 : ¬ 0 < r := fun q => hc ⟨hc1, q⟩
        simp only [ev_bind, ev_nox, ev_seq, ev_set, ev_setOwn, ev_share, ev_drop, ev_ret, ev_retOwn, ev_skip, ev_brk, ev_cnt, ev_ifS, ev_frzS, ev_append, ev_setIx, ev_for, ev_lc, ev_seqOf, ev_range, ev_var, ev_c, ev_op, ev_un, ev_args, ev_nil, ev_cons, ev_frz, ev_b, ev_and, ev_or, ev_not, ev_andV, ev_orV, ev_notV, ev_if, ev_chain, ev_isi, ev_ixOwn, ev_lenOwn, ev_call, ev_callK, ev_sl, ev_part, ev_true, ev_nm, ev_toB, frz, frzAt, toSeq_tup, toSeq_lst, toSeq_cl, toRet, mWipe, kbG, Mir.gTup, Mir.gLst, List.getElem?_cons_zero, List.getElem?_cons_succ, List.set_cons_zero, List.set_cons_succ, List.length_cons, List.length_nil, List.append_nil, List.nil_append, List.cons_append, Nat.reduceAdd, Nat.reduceLeDiff, Nat.reduceEqDiff, Nat.zero_add, reduceIte, Bool.false_eq_true, Bool.not_true, Bool.not_false, and_self, sizeM_eq, gAddA, gAdd, gMulA, gMul, Mir.gSub, gFdiv, gMod, gLt, gLe, gGt, geA_int, gLen, gInt, gAbs, gNeg, hand_turn, ev_dput, hand_put, hand_cells, hand_left, List.length_map, hpos, decide_true, hA, gIx, e1, e2, gPow, p18, hc1, hc2, decide_false]
        simp only [ev_bind, ev_nox, ev_seq, ev_set, ev_setOwn, ev_share, ev_drop, ev_ret, ev_retOwn, ev_skip, ev_brk, ev_cnt, ev_ifS, ev_frzS, ev_append, ev_setIx, ev_for, ev_lc, ev_seqOf, ev_range, ev_var, ev_c, ev_op, ev_un, ev_args, ev_nil, ev_cons, ev_frz, ev_b, ev_and, ev_or, ev_not, ev_andV, ev_orV, ev_notV, ev_if, ev_chain, ev_isi, ev_ixOwn, ev_lenOwn, ev_call, ev_callK, ev_sl, ev_part, ev_true, ev_nm, ev_toB, frz, frzAt, toSeq_tup, toSeq_lst, toSeq_cl, toRet, mWipe, kbG, Mir.gTup, Mir.gLst, List.getElem?_cons_zero, List.getElem?_cons_succ, List.set_cons_zero, List.set_cons_succ, List.length_cons, List.length_nil, List.append_nil, List.nil_append, List.cons_append, Nat.reduceAdd, Nat.reduceLeDiff, Nat.reduceEqDiff, Nat.zero_add, reduceIte, Bool.false_eq_true, Bool.not_true, Bool.not_false, and_self, sizeM_eq, gAddA, gAdd, gMulA, gMul, Mir.gSub, gFdiv, gMod, gLt, gLe, gGt, geA_int, gLen, gInt, gAbs, gNeg] at ev
        simp only [ev, ev_bind, ev_nox, ev_seq, ev_set, ev_setOwn, ev_share, ev_drop, ev_ret, ev_retOwn, ev_skip, ev_brk, ev_cnt, ev_ifS, ev_frzS, ev_append, ev_setIx, ev_for, ev_lc, ev_seqOf, ev_range, ev_var, ev_c, ev_op, ev_un, ev_args, ev_nil, ev_cons, ev_frz, ev_b, ev_and, ev_or, ev_not, ev_andV, ev_orV, ev_notV, ev_if, ev_chain, ev_isi, ev_ixOwn, ev_lenOwn, ev_call, ev_callK, ev_sl, ev_part, ev_true, ev_nm, ev_toB, frz, frzAt, toSeq_tup, toSeq_lst, toSeq_cl, toRet, mWipe, kbG, Mir.gTup, Mir.gLst, List.getElem?_cons_zero, List.getElem?_cons_succ, List.set_cons_zero, List.set_cons_succ, List.length_cons, List.length_nil, List.append_nil, List.nil_append, List.cons_append, Nat.reduceAdd, Nat.reduceLeDiff, Nat.reduceEqDiff, Nat.zero_add, reduceIte, Bool.false_eq_true, Bool.not_true, Bool.not_false, and_self, sizeM_eq]
      · simp only [ev_bind, ev_nox, ev_seq, ev_set, ev_setOwn, ev_share, ev_drop, ev_ret, ev_retOwn, ev_skip, ev_brk, ev_cnt, ev_ifS, ev_frzS, ev_append, ev_setIx, ev_for, ev_lc, ev_seqOf, ev_range, ev_var, ev_c, ev_op, ev_un, ev_args, ev_nil, ev_cons, ev_frz, ev_b, ev_and, ev_or, ev_not, ev_andV, ev_orV, ev_notV, ev_if, ev_chain, ev_isi, ev_ixOwn, ev_lenOwn, ev_call, ev_callK, ev_sl, ev_part, ev_true, ev_nm, ev_toB, frz, frzAt, toSeq_tup, toSeq_lst, toSeq_cl, toRet, mWipe, kbG, Mir.gTup, Mir.gLst, List.getElem?_cons_zero, List.getElem?_cons_succ, List.set_cons_zero, List.set_cons_succ, List.length_cons, List.length_nil, List.append_nil, List.nil_append, List.cons_append, Nat.reduceAdd, Nat.reduceLeDiff, Nat.reduceEqDiff, Nat.zero_add, reduceIte, Bool.false_eq_true, Bool.not_true, Bool.not_false, and_self, sizeM_eq, gAddA, gAdd, gMulA, gMul, Mir.gSub, gFdiv, gMod, gLt, gLe, gGt, geA_int, gLen, gInt, gAbs, gNeg, hand_turn, ev_dput, hand_put, hand_cells, hand_left, List.length_map, hpos, decide_true, hA, gIx, e1, e2, gPow, p18, hc1, decide_false]
        simp only [ev_bind, ev_nox, ev_seq, ev_set, ev_setOwn, ev_share, ev_drop, ev_ret, ev_retOwn, ev_skip, ev_brk, ev_cnt, ev_ifS, ev_frzS, ev_append, ev_setIx, ev_for, ev_lc, ev_seqOf, ev_range, ev_var, ev_c, ev_op, ev_un, ev_args, ev_nil, ev_cons, ev_frz, ev_b, ev_and, ev_or, ev_not, ev_andV, ev_orV, ev_notV, ev_if, ev_chain, ev_isi, ev_ixOwn, ev_lenOwn, ev_call, ev_callK, ev_sl, ev_part, ev_true, ev_nm, ev_toB, frz, frzAt, toSeq_tup, toSeq_lst, toSeq_cl, toRet, mWipe, kbG, Mir.gTup, Mir.gLst, List.getElem?_cons_zero, List.getElem?_cons_succ, List.set_cons_zero, List.set_cons_succ, List.length_cons, List.length_nil, List.append_nil, List.nil_append, List.cons_append, Nat.reduceAdd, Nat.reduceLeDiff, Nat.reduceEqDiff, Nat.zero_add, reduceIte, Bool.false_eq_true, Bool.not_true, Bool.not_false, and_self, sizeM_eq, gAddA, gAdd, gMulA, gMul, Mir.gSub, gFdiv, gMod, gLt, gLe, gGt, geA_int, gLen, gInt, gAbs, gNeg] at ev
        simp only [ev, ev_bind, ev_nox, ev_seq, ev_set, ev_setOwn, ev_share, ev_drop, ev_ret, ev_retOwn, ev_skip, ev_brk, ev_cnt, ev_ifS, ev_frzS, ev_append, ev_setIx, ev_for, ev_lc, ev_seqOf, ev_range, ev_var, ev_c, ev_op, ev_un, ev_args, ev_nil, ev_cons, ev_frz, ev_b, ev_and, ev_or, ev_not, ev_andV, ev_orV, ev_notV, ev_if, ev_chain, ev_isi, ev_ixOwn, ev_lenOwn, ev_call, ev_callK, ev_sl, ev_part, ev_true, ev_nm, ev_toB, frz, frzAt, toSeq_tup, toSeq_lst, toSeq_cl, toRet, mWipe, kbG, Mir.gTup, Mir.gLst, List.getElem?_cons_zero, List.getElem?_cons_succ, List.set_cons_zero, List.set_cons_succ, List.length_cons, List.length_nil, List.append_nil, List.nil_append, List.cons_append, Nat.reduceAdd, Nat.reduceLeDiff, Nat.reduceEqDiff, Nat.zero_add, reduceIte, Bool.false_eq_true, Bool.not_true, Bool.not_false, and_self, sizeM_eq]
end Mir
set_option maxHeartbeats 4000000
/-! MirH: data, small data with plain texts; loops that end in an exception. -/
namespace Mir
open PySem L2
/-- data without objects -/
def Clean (v : PV) : Prop := (toD v).isSome = true
theorem Clean.no {v : PV} (h : Clean v) : NoObj v := by
  unfold NoObj
  cases v <;> first | rfl | (unfold Clean at h; simp [toD] at h)
theorem toDs_mem : ∀ {xs : List PV}, (toDs xs).isSome = true → ∀ x ∈ xs, Clean x
  | [], _, x, h => nomatch h
  | y :: ys, h, x, hx => by
    simp only [toDs] at h
    cases h1 : toD y with
    | none => rw [h1] at h; cases h
    | some d =>
      cases h2 : toDs ys with
      | none => rw [h1, h2] at h; cases h
      | some ds =>
        rcases List.mem_cons.mp hx with rfl | hx
        · unfold Clean; rw [h1]; rfl
        · exact toDs_mem (by rw [h2]; rfl) x hx
theorem Clean.tup {xs : List PV} (h : Clean (.tup xs)) : ∀ x ∈ xs, Clean x := by
  unfold Clean at h
  simp only [toD, Option.isSome_map] at h
  exact toDs_mem h
theorem Clean.lst {xs : List PV} (h : Clean (.lst xs)) : ∀ x ∈ xs, Clean x := by
  unfold Clean at h
  simp only [toD, Option.isSome_map] at h
  exact toDs_mem h
theorem toDs_some : ∀ {xs : List PV}, (∀ x ∈ xs, Clean x) → (toDs xs).isSome = true
  | [], _ => rfl
  | y :: ys, h => by
    have h1 := h y List.mem_cons_self
    have h2 := toDs_some fun x hx => h x (List.mem_cons_of_mem y hx)
    simp only [toDs]
    unfold Clean at h1
    cases e1 : toD y with
    | none => rw [e1] at h1; cases h1
    | some d =>
      cases e2 : toDs ys with
      | none => rw [e2] at h2; cases h2
      | some ds => rfl
theorem clean_tup {xs : List PV} (h : ∀ x ∈ xs, Clean x) : Clean (.tup xs) := by
  unfold Clean
  simp only [toD, Option.isSome_map]
  exact toDs_some h
theorem clean_lst {xs : List PV} (h : ∀ x ∈ xs, Clean x) : Clean (.lst xs) := by
  unfold Clean
  simp only [toD, Option.isSome_map]
  exact toDs_some h
theorem clean_row (r : List Int) : Clean (rowP r) := by unfold Clean; rw [toD_row]; rfl
theorem sm_by {y : PV} {w k : Nat} (d : PyData) (h : toD y = some d) (h2 : (PyData.showable d && (d.leavesShort 30 && (decide (d.weight ≤ w) && decide (d.depth ≤ k)))) = true) : Sm y w k := by
  simp only [Bool.and_eq_true, decide_eq_true_eq] at h2
  exact ⟨d, h, h2.1, h2.2.1, h2.2.2.1, h2.2.2.2⟩
theorem pln_by {y : PV} (d : PyData) (h : toD y = some d) (h2 : plainD d = true) : Pln y := fun e he => by
  rw [h] at he
  cases he
  exact h2
/-- small data with a plain text -/
structure Dat (y : PV) (w k : Nat) : Prop where
  cl : Clean y
  sm : Sm y w k
  pl : Pln y
theorem Dat.mono {y : PV} {w k w' k' : Nat} (h : Dat y w k) (h1 : w ≤ w') (h2 : k ≤ k') : Dat y w' k' := ⟨h.cl, h.sm.mono h1 h2, h.pl⟩
theorem dat_by {y : PV} {w k : Nat} (d : PyData) (h : toD y = some d) (h2 : (PyData.showable d && (d.leavesShort 30 && (decide (d.weight ≤ w) && decide (d.depth ≤ k)))) = true) (h3 : plainD d = true) : Dat y w k :=
  ⟨by unfold Clean; rw [h]; rfl, sm_by d h h2, pln_by d h h3⟩
theorem dat_tup {xs : List PV} {w k : Nat} (h : ∀ x ∈ xs, Dat x w k) : Dat (.tup xs) ((w + 1) * xs.length) (k + 1) := ⟨clean_tup fun x hx => (h x hx).cl, sm_tup fun x hx => (h x hx).sm, pln_tup fun x hx => (h x hx).pl⟩
theorem dat_lst {xs : List PV} {w k : Nat} (h : ∀ x ∈ xs, Dat x w k) : Dat (.lst xs) ((w + 1) * xs.length) (k + 1) := ⟨clean_lst fun x hx => (h x hx).cl, sm_lst fun x hx => (h x hx).sm, pln_lst fun x hx => (h x hx).pl⟩
theorem dat_bit {b : Int} (h : b = 0 ∨ b = 1) : Dat (.int b) 1 0 := ⟨rfl, sm_bit h, pln_int b⟩
theorem dat_bl (b : Bool) : Dat (.bl b) 0 0 := ⟨rfl, sm_bl b, pln_bl b⟩
theorem Dat.text {y : PV} {w k : Nat} (h : Dat y w k) (hw : w ≤ 3000) (hk : k ≤ 60) : ∃ s : Str, PyData.strOk s = true ∧ ∀ S, gRepr [y] S = .ok (.str s) S := by
  obtain ⟨s, hs⟩ := sm_repr h.sm hw hk []
  refine ⟨s, repr_pln h.pl hs, fun S => ?_⟩
  obtain ⟨s', hs'⟩ := sm_repr h.sm hw hk S
  have e : s' = s := by
    have e1 : (match toD y with | some d => (if reprOk d = true then Res.ok (PV.str d.shown) [] else .bad) | none => .bad) = Res.ok (PV.str s) [] := hs
    have e2 : (match toD y with | some d => (if reprOk d = true then Res.ok (PV.str d.shown) S else .bad) | none => .bad) = Res.ok (PV.str s') S := hs'
    cases q : toD y with
    | none => rw [q] at e1; cases e1
    | some d =>
      rw [q] at e1 e2
      simp only at e1 e2
      split at e1
      · rename_i c
        rw [if_pos c] at e2
        cases e1
        cases e2
        rfl
      · cases e1
  rw [hs', e]
/-- (word, text) is not unlike itself -/
theorem two_strs {a s : Str} (ha : PyData.strOk a = true) (hs : PyData.strOk s = true) : Selfy (.tup [.str a, .str s]) := ⟨.tuple [.str a, .str s], rfl, by
  show (PyData.canLayAll0 [.str a, .str s] && _) = true
  simp only [PyData.canLayAll0, PyData.canLay0, ha, hs, Bool.and_self, Bool.true_and]
  rfl⟩
theorem cut_sub {xs : List PV} {i j : Option Int} {x : PV} (h : x ∈ cutP xs i j) : x ∈ xs := List.mem_of_mem_drop (List.mem_of_mem_take h)
/-- a loop that ends in an exception -/
theorem for_exc {g : PV → Rho → Store → Res Rho} {b : Rho → Store → Res Out} {x : PV} {post : List PV} {c : Str} {fv : List (Str × PV)} {S : Store} (Pv : Rho → Prop)
    : ∀ {pre : List PV} {ρ : Rho}, Pv ρ → (∀ y ∈ pre, ∀ ρ, Pv ρ → ∃ ρ', (g y ρ S).bind (fun ρ1 S1 => b ρ1 S1) = .ok (.nx ρ') S ∧ Pv ρ') → (∀ ρ, Pv ρ → (g x ρ S).bind (fun ρ1 S1 => b ρ1 S1) = .exc c fv S) → mForGo g b (pre ++ x :: post) ρ S = .exc c fv S
  | [], ρ, hp, _, hx => by
    have h := hx ρ hp
    show ((g x ρ S).bind fun ρ1 S1 => (b ρ1 S1).bind _) = _
    cases eg : g x ρ S with
    | bad => rw [eg] at h; cases h
    | exc c' fs S1 =>
      rw [eg] at h
      cases h
      rfl
    | ok ρ1 S1 =>
      rw [eg] at h
      show (b ρ1 S1).bind _ = _
      rw [show b ρ1 S1 = .exc c fv S from h]
      rfl
  | y :: pre, ρ, hp, hy, hx => by
    obtain ⟨ρ', h, hp'⟩ := hy y List.mem_cons_self ρ hp
    show ((g y ρ S).bind fun ρ1 S1 => (b ρ1 S1).bind _) = _
    cases eg : g y ρ S with
    | bad => rw [eg] at h; cases h
    | exc c' fs S1 => rw [eg] at h; cases h
    | ok ρ1 S1 =>
      rw [eg] at h
      show (b ρ1 S1).bind _ = _
      rw [show b ρ1 S1 = .ok (.nx ρ') S from h]
      exact for_exc Pv hp' (fun z hz => hy z (List.mem_cons_of_mem _ hz)) hx
/-! bits -/
def isBitP : PV → Bool
  | .int i => decide (0 ≤ i) && decide (i ≤ 1)
  | _ => false
def rng (n : Nat) : List PV := (List.range n).map fun (k : Nat) => PV.int (k : Int)
theorem rng_mid {n : Nat} {pre post : List PV} {x : PV} (h : rng n = pre ++ x :: post) : ∃ k : Nat, x = .int k ∧ k < n := by
  have : x ∈ rng n := by rw [h]; simp
  obtain ⟨k, hk, rfl⟩ := List.mem_map.mp this
  exact ⟨k, rfl, by simpa using hk⟩
theorem rng_mem {n : Nat} {x : PV} (h : x ∈ rng n) : ∃ k : Nat, x = .int k ∧ k < n := by
  obtain ⟨k, hk, rfl⟩ := List.mem_map.mp h
  exact ⟨k, rfl, by simpa using hk⟩
theorem noobj_bl (b : Bool) : NoObj (.bl b) := rfl
theorem ne_bl_self (b : Bool) (S : Store) : gEqD true (.bl b) (.bl b) S = .ok (.bl false) S := selfy_ne ⟨.bool b, rfl, rfl⟩ (fun a e => by cases e) S
theorem atI_rowI {r : List Int} {e : Int} (h : 0 ≤ e) (h2 : e < r.length) : atI (r.map PV.int) e = some (.int (r.getD e.toNat 0)) := by
  have := atI_row (r := r) (j := e.toNat) (by omega)
  rw [Int.toNat_of_nonneg h] at this
  exact this
theorem bit_at {r : List Int} (hb : Bits r) (j : Nat) : r.getD j 0 = 0 ∨ r.getD j 0 = 1 := by
  rw [List.getD_eq_getElem?_getD]
  cases h : r[j]? with
  | none => exact .inl rfl
  | some v => exact hb v (List.mem_of_getElem? h)
end Mir
namespace Mir
open PySem L2
section
variable {g : PV → Rho → Store → Res Rho} {t : Rho → Store → Res Bool} {a : Rho → Store → Res PV} {ρ : Rho}
theorem lc_mapL {α : Type} {S : Store} (F G : α → PV) : ∀ {ps : List α}, (∀ p ∈ ps, ∃ ρ1, g (F p) ρ S = .ok ρ1 S ∧ t ρ1 S = .ok true S ∧ a ρ1 S = .ok (G p) S) → mLcGo g t a ρ (ps.map F) S = .ok (ps.map G) S
  | [], _ => rfl
  | p :: ps, h => by
    obtain ⟨ρ1, e1, e2, e3⟩ := h p List.mem_cons_self
    have ih := lc_mapL F G (ps := ps) fun q hq => h q (List.mem_cons_of_mem _ hq)
    simp only [List.map_cons, mLcGo, e1, Res.nox, Res.bind, e2, if_true, e3, ih]
end
end Mir
set_option maxHeartbeats 4000000
/-! MirJ: small facts used by several laws: comprehensions of ints, cuts. -/
namespace Mir
open PySem L2
section
variable {g : PV → Rho → Store → Res Rho} {t : Rho → Store → Res Bool} {a : Rho → Store → Res PV} {ρ : Rho}
theorem lc_bits {xs : List PV} {S : Store} (h : ∀ x ∈ xs, ∃ ρ1 b, g x ρ S = .ok ρ1 S ∧ t ρ1 S = .ok true S ∧ a ρ1 S = .ok (.int b) S ∧ (b = 0 ∨ b = 1)) : ∃ r : List Int, mLcGo g t a ρ xs S = .ok (r.map PV.int) S ∧ r.length = xs.length ∧ Bits r := by
  obtain ⟨ys, S', e, rfl, hl, hy⟩ := lc_inv (g := g) (t := t) (a := a) (ρ := ρ) (xs := xs) (fun S' => S' = S) (fun _ y => ∃ b : Int, y = .int b ∧ (b = 0 ∨ b = 1)) (fun x hx S' e => by
    obtain ⟨ρ1, b, h1, h2, h3, h4⟩ := h x hx
    subst e
    exact ⟨ρ1, .int b, S', h1, h2, h3, ⟨b, rfl, h4⟩, rfl⟩) S rfl
  obtain ⟨tb, rfl, hb⟩ := ints_of (ys := ys) (P := fun b => b = 0 ∨ b = 1) (ix_all hl hy)
  exact ⟨tb, e, by simpa using hl, hb⟩
theorem lc_some {S : Store} : ∀ {xs : List PV}, (∀ x ∈ xs, ∃ ρ1 c b, g x ρ S = .ok ρ1 S ∧ t ρ1 S = .ok c S ∧ a ρ1 S = .ok (.int b) S) → ∃ r : List Int, mLcGo g t a ρ xs S = .ok (r.map PV.int) S ∧ r.length ≤ xs.length
  | [], _ => ⟨[], rfl, Nat.le_refl _⟩
  | x :: xs, h => by
    obtain ⟨ρ1, c, b, h1, h2, h3⟩ := h x List.mem_cons_self
    obtain ⟨r, e, hl⟩ := lc_some (xs := xs) fun y hy => h y (List.mem_cons_of_mem _ hy)
    cases c
    · refine ⟨r, ?_, by simp; omega⟩
      simp only [mLcGo, h1, h2, Res.nox, Res.bind, Bool.false_eq_true, if_false, e]
    · refine ⟨b :: r, ?_, by simp; omega⟩
      simp only [mLcGo, h1, h2, h3, Res.nox, Res.bind, if_true, e, List.map_cons]
/-- several draws -/
theorem lc_draws {R : Store} {xs : List PV} {lo hi : Int} (h : ∀ x ∈ xs, ∀ S, Hand2 S R → ∃ ρ1 b S', g x ρ S = .ok ρ1 S ∧ t ρ1 S = .ok true S ∧ a ρ1 S = .ok (.int b) S' ∧ (lo ≤ b ∧ b < hi) ∧ Hand2 S' R) {S : Store} (hs : Hand2 S R) : ∃ (r : List Int) (S' : Store), mLcGo g t a ρ xs S = .ok (r.map PV.int) S' ∧ Hand2 S' R ∧ r.length = xs.length ∧ ∀ b ∈ r, lo ≤ b ∧ b < hi := by
  obtain ⟨ys, S', e, hp, hl, hy⟩ := lc_inv (g := g) (t := t) (a := a) (ρ := ρ) (xs := xs) (fun S' => Hand2 S' R) (fun _ y => ∃ b : Int, y = .int b ∧ (lo ≤ b ∧ b < hi)) (fun x hx S' hS => by
    obtain ⟨ρ1, b, S2, h1, h2, h3, h4, h5⟩ := h x hx S' hS
    exact ⟨ρ1, .int b, S2, h1, h2, h3, ⟨b, rfl, h4⟩, h5⟩) S hs
  obtain ⟨tb, rfl, hb⟩ := ints_of (ys := ys) (P := fun b => lo ≤ b ∧ b < hi) (ix_all hl hy)
  exact ⟨tb, S', e, hp, by simpa using hl, hb⟩
end
theorem cutK (xs : List PV) (k : Nat) : cutP xs none (some (k : Int)) = xs.take k := by
  have : HT.sIx xs.length xs.length (some (k : Int)) = min k xs.length := by
    unfold HT.sIx
    simp only
    rw [if_neg (by omega)]
    omega
  unfold cutP
  rw [this]
  show List.take (min k xs.length) xs = _
  rw [List.take_eq_take_min, List.take_eq_take_min (i := k), Nat.min_assoc, Nat.min_self]
theorem cutD (xs : List PV) (k : Nat) : cutP xs (some (k : Int)) none = xs.drop k := by
  have h1 : HT.sIx xs.length 0 (some (k : Int)) = min k xs.length := by
    unfold HT.sIx
    simp only
    rw [if_neg (by omega)]
    omega
  unfold cutP
  rw [h1]
  show List.take (xs.length - min k xs.length) (List.drop (min k xs.length) xs) = _
  rw [← List.length_drop, List.take_length]
  by_cases h : k ≤ xs.length
  · rw [Nat.min_eq_left h]
  · rw [Nat.min_eq_right (by omega), List.drop_eq_nil_of_le (Nat.le_refl _), List.drop_eq_nil_of_le (by omega)]
theorem cutK1 (xs : List PV) (k : Nat) : cutP xs none (some ((k : Int) + 1)) = xs.take (k + 1) := by
  have := cutK xs (k + 1)
  rwa [show ((k + 1 : Nat) : Int) = (k : Int) + 1 by omega] at this
theorem cutD1 (xs : List PV) (k : Nat) : cutP xs (some ((k : Int) + 1)) none = xs.drop (k + 1) := by
  have := cutD xs (k + 1)
  rwa [show ((k + 1 : Nat) : Int) = (k : Int) + 1 by omega] at this
theorem cutD2 (xs : List PV) (k : Nat) : cutP xs (some ((k : Int) + 2)) none = xs.drop (k + 2) := by
  have := cutD xs (k + 2)
  rwa [show ((k + 2 : Nat) : Int) = (k : Int) + 2 by omega] at this
/-- x in a list of ints -/
def inB (neg : Bool) (c : Int) (ps : List Int) : Bool := if neg then !((ps.map PyData.int).any fun z => PyData.eqv z (.int c)) else (ps.map PyData.int).any fun z => PyData.eqv z (.int c)
theorem shaped_ints (r : List Int) : SeqAt.shaped (.list (r.map PyData.int)) = true := by
  unfold SeqAt.shaped
  simp only [PyData.canLay0, lay_ints, PyData.depth, depth_ints, Bool.true_and]
  rfl
theorem inD_ints (neg : Bool) (c : Int) (ps : List Int) (S : Store) : gInD neg (.int c) (.lst (ps.map PV.int)) S = .ok (.bl (inB neg c ps)) S := by
  unfold gInD
  simp only [toD, toDs_ints, Option.map_some, shaped_ints, shaped_int, Bool.and_self, if_true]
  rfl
end Mir
set_option maxHeartbeats 4000000
/-! MirN: equations of the mirrors for own classes; relations. -/
namespace Mir
open PySem L2
section
variable {α β : Type} {ρ : Rho} {S : Store} {a b k v : Rho → Store → Res PV} {t : Rho → Store → Res Bool} {g : PV → Rho → Store → Res Rho} {it : Rho → Store → Res (List PV)} {as : Rho → Store → Res (List PV)}
theorem ev_make {n : Nat} {c : Str} {ns : List Str} {m : List PV → Store → Res (List PV)} : mMake n c ns m as ρ S = (as ρ S).bind fun xs S1 => if xs.length = n then (m xs S1).bind fun ys S2 => .ok (.ins c ns ys) S2 else .bad := nrfl rfl
theorem ev_fldI {c f : Str} : mFldI c f a ρ S = (a ρ S).bind fun x S1 => match x with
  | .ins c' ns xs => if c' = c then (match (ns.zip xs).lookup f with
    | some y => .ok y S1
    | none => .bad) else .bad
  | _ => .bad := nrfl rfl
theorem ev_isiC {c : Str} : mIsiC c a ρ S = (a ρ S).bind fun x S1 => match x with
  | .ins c' _ _ => if c' = c then .ok (.bl true) S1 else .bad
  | _ => .bad := nrfl rfl
theorem ev_sortD {B : Int} {vs : List Nat} : mSortD B it g t k v vs ρ S = (it ρ S).bind fun xs S1 => if xs.length ≤ sizeM then (mLcGo g t (mKey k v) (mWipe ρ vs) xs S1).bind (sortV B) else .bad := nrfl rfl
theorem ev_key : mKey k v ρ S = (k ρ S).bind fun y S1 => (v ρ S1).bind fun _ S2 => match toRow y with
  | some _ => .ok y S2
  | none => .bad := nrfl rfl
theorem ev_join : mJoin a b ρ S = (a ρ S).bind fun x S1 => match x with
  | .str c => (b ρ S1).bind fun y S2 => gJoin (.str c) y S2
  | _ => .bad := nrfl rfl
end
/-! ### the program's asks about rows -/
def B_below : Rho → Store → Res Out :=
  (mRet (mAndV (mIsi "int" (mVar 0)) (mAndV (mNotV (mIsi "bool" (mVar 0))) (mChain gLe gLt (mC (.int 0)) (mVar 0) (mVar 1)))))
def B_isrow : Rho → Store → Res Out :=
  (mSeq (mIfS (mOr (mNot (mB (mIsi "tuple" (mVar 0)))) (mB (mOp (gEqD true) (mArgs gLen (mCons (mVar 0) mNil)) (mVar 1))))
    (mRet (mC (.bl false)))
    mSkip)
    (mSeq (mFor (mSeqOf (mVar 0)) (gNm 2)
    (mIfS (mNot (mB (mCall 2 (mDef 2 B_below) [] (mCons (mVar 2) (mCons (mC (.int 2)) mNil)))))
    (mRet (mC (.bl false)))
    mSkip))
    (mRet (mC (.bl true)))))
def B_arerows : Rho → Store → Res Out :=
  (mSeq (mIfS (mOr (mNot (mB (mIsiT ["list", "tuple"] (mVar 0)))) (mB (mOp (gEqD false) (mArgs gLen (mCons (mVar 0) mNil)) (mC (.int 0)))))
    (mRet (mC (.bl false)))
    mSkip)
    (mSeq (mFor (mSeqOf (mVar 0)) (gNm 2)
    (mIfS (mNot (mB (mCall 2 (mDef 3 B_isrow) [] (mCons (mVar 2) (mCons (mVar 1) mNil)))))
    (mRet (mC (.bl false)))
    mSkip))
    (mRet (mC (.bl true)))))
def belowB (m : Int) : PV → Bool
  | .int i => decide (0 ≤ i) && decide (i < m)
  | _ => false
theorem bel_ok {v : PV} (h : NoObj v) (m : Int) (S : Store) : mDef 2 B_below [v, .int m] S = .ok (.bl (belowB m v)) S := by
  show (B_below [.val v, .val (.int m)] S).bind toRet = _
  unfold B_below
  simp only [ev_bind, ev_nox, ev_seq, ev_set, ev_setOwn, ev_share, ev_drop, ev_ret, ev_retOwn, ev_skip, ev_brk, ev_cnt, ev_ifS, ev_frzS, ev_append, ev_setIx, ev_for, ev_lc, ev_seqOf, ev_range, ev_var, ev_c, ev_op, ev_un, ev_args, ev_nil, ev_cons, ev_frz, ev_b, ev_and, ev_or, ev_not, ev_andV, ev_orV, ev_notV, ev_if, ev_chain, ev_isi, ev_ixOwn, ev_lenOwn, ev_call, ev_callK, ev_sl, ev_part, ev_true, ev_nm, ev_toB, frz, frzAt, toSeq_tup, toSeq_lst, toSeq_cl, toRet, mWipe, kbG, Mir.gTup, Mir.gLst, List.getElem?_cons_zero, List.getElem?_cons_succ, List.set_cons_zero, List.set_cons_succ, List.length_cons, List.length_nil, List.append_nil, List.nil_append, List.cons_append, Nat.reduceAdd, Nat.reduceLeDiff, Nat.reduceEqDiff, Nat.zero_add, reduceIte, Bool.false_eq_true, Bool.not_true, Bool.not_false, and_self, sizeM_eq, isi_int h, isi_bool h]
  cases v <;> simp only [isIntP, isBoolP, belowB, ev_bind, ev_nox, ev_seq, ev_set, ev_setOwn, ev_share, ev_drop, ev_ret, ev_retOwn, ev_skip, ev_brk, ev_cnt, ev_ifS, ev_frzS, ev_append, ev_setIx, ev_for, ev_lc, ev_seqOf, ev_range, ev_var, ev_c, ev_op, ev_un, ev_args, ev_nil, ev_cons, ev_frz, ev_b, ev_and, ev_or, ev_not, ev_andV, ev_orV, ev_notV, ev_if, ev_chain, ev_isi, ev_ixOwn, ev_lenOwn, ev_call, ev_callK, ev_sl, ev_part, ev_true, ev_nm, ev_toB, frz, frzAt, toSeq_tup, toSeq_lst, toSeq_cl, toRet, mWipe, kbG, Mir.gTup, Mir.gLst, List.getElem?_cons_zero, List.getElem?_cons_succ, List.set_cons_zero, List.set_cons_succ, List.length_cons, List.length_nil, List.append_nil, List.nil_append, List.cons_append, Nat.reduceAdd, Nat.reduceLeDiff, Nat.reduceEqDiff, Nat.zero_add, reduceIte, Bool.false_eq_true, Bool.not_true, Bool.not_false, and_self, sizeM_eq, gAddA, gAdd, gMulA, gMul, Mir.gSub, gFdiv, gMod, gLt, gLe, gGt, geA_int, gLen, gInt, gAbs, gNeg]
  · rename_i i
    by_cases h0 : (0 : Int) ≤ i
    · simp only [h0, decide_true, ev_bind, ev_nox, ev_seq, ev_set, ev_setOwn, ev_share, ev_drop, ev_ret, ev_retOwn, ev_skip, ev_brk, ev_cnt, ev_ifS, ev_frzS, ev_append, ev_setIx, ev_for, ev_lc, ev_seqOf, ev_range, ev_var, ev_c, ev_op, ev_un, ev_args, ev_nil, ev_cons, ev_frz, ev_b, ev_and, ev_or, ev_not, ev_andV, ev_orV, ev_notV, ev_if, ev_chain, ev_isi, ev_ixOwn, ev_lenOwn, ev_call, ev_callK, ev_sl, ev_part, ev_true, ev_nm, ev_toB, frz, frzAt, toSeq_tup, toSeq_lst, toSeq_cl, toRet, mWipe, kbG, Mir.gTup, Mir.gLst, List.getElem?_cons_zero, List.getElem?_cons_succ, List.set_cons_zero, List.set_cons_succ, List.length_cons, List.length_nil, List.append_nil, List.nil_append, List.cons_append, Nat.reduceAdd, Nat.reduceLeDiff, Nat.reduceEqDiff, Nat.zero_add, reduceIte, Bool.false_eq_true, Bool.not_true, Bool.not_false, and_self, sizeM_eq, Bool.true_and]
    · simp only [h0, decide_false, ev_bind, ev_nox, ev_seq, ev_set, ev_setOwn, ev_share, ev_drop, ev_ret, ev_retOwn, ev_skip, ev_brk, ev_cnt, ev_ifS, ev_frzS, ev_append, ev_setIx, ev_for, ev_lc, ev_seqOf, ev_range, ev_var, ev_c, ev_op, ev_un, ev_args, ev_nil, ev_cons, ev_frz, ev_b, ev_and, ev_or, ev_not, ev_andV, ev_orV, ev_notV, ev_if, ev_chain, ev_isi, ev_ixOwn, ev_lenOwn, ev_call, ev_callK, ev_sl, ev_part, ev_true, ev_nm, ev_toB, frz, frzAt, toSeq_tup, toSeq_lst, toSeq_cl, toRet, mWipe, kbG, Mir.gTup, Mir.gLst, List.getElem?_cons_zero, List.getElem?_cons_succ, List.set_cons_zero, List.set_cons_succ, List.length_cons, List.length_nil, List.append_nil, List.nil_append, List.cons_append, Nat.reduceAdd, Nat.reduceLeDiff, Nat.reduceEqDiff, Nat.zero_add, reduceIte, Bool.false_eq_true, Bool.not_true, Bool.not_false, and_self, sizeM_eq, Bool.false_and]
theorem bel2 (v : PV) : belowB 2 v = isBitP v := by
  cases v <;> try rfl
  rename_i i
  show (decide (0 ≤ i) && decide (i < 2)) = (decide (0 ≤ i) && decide (i ≤ 1))
  rw [Bool.eq_iff_iff]
  simp only [Bool.and_eq_true, decide_eq_true_eq]
  omega
def rowB (n : Nat) : PV → Bool
  | .tup xs => decide (xs.length = n) && xs.all isBitP
  | _ => false
theorem irow_ok {v : PV} (h : Clean v) (n : Nat) (S : Store) : mDef 3 B_isrow [v, .int n] S = .ok (.bl (rowB n v)) S := by
  show (B_isrow [.val v, .val (.int n), .none] S).bind toRet = _
  unfold B_isrow
  cases v with
  | obj k => cases h.no
  | dk ks xs => cases h.no
  | ins c ns xs => cases h.no
  | fn x => cases h.no
  | tup xs =>
    simp only [ev_bind, ev_nox, ev_seq, ev_set, ev_setOwn, ev_share, ev_drop, ev_ret, ev_retOwn, ev_skip, ev_brk, ev_cnt, ev_ifS, ev_frzS, ev_append, ev_setIx, ev_for, ev_lc, ev_seqOf, ev_range, ev_var, ev_c, ev_op, ev_un, ev_args, ev_nil, ev_cons, ev_frz, ev_b, ev_and, ev_or, ev_not, ev_andV, ev_orV, ev_notV, ev_if, ev_chain, ev_isi, ev_ixOwn, ev_lenOwn, ev_call, ev_callK, ev_sl, ev_part, ev_true, ev_nm, ev_toB, frz, frzAt, toSeq_tup, toSeq_lst, toSeq_cl, toRet, mWipe, kbG, Mir.gTup, Mir.gLst, List.getElem?_cons_zero, List.getElem?_cons_succ, List.set_cons_zero, List.set_cons_succ, List.length_cons, List.length_nil, List.append_nil, List.nil_append, List.cons_append, Nat.reduceAdd, Nat.reduceLeDiff, Nat.reduceEqDiff, Nat.zero_add, reduceIte, Bool.false_eq_true, Bool.not_true, Bool.not_false, and_self, sizeM_eq, isi_tuple h.no, isTupP, gAddA, gAdd, gMulA, gMul, Mir.gSub, gFdiv, gMod, gLt, gLe, gGt, geA_int, gLen, gInt, gAbs, gNeg, neD_int]
    by_cases hl : xs.length = n
    · have e1 : decide ((xs.length : Int) = n) = true := decide_eq_true (by omega)
      simp only [e1, ev_bind, ev_nox, ev_seq, ev_set, ev_setOwn, ev_share, ev_drop, ev_ret, ev_retOwn, ev_skip, ev_brk, ev_cnt, ev_ifS, ev_frzS, ev_append, ev_setIx, ev_for, ev_lc, ev_seqOf, ev_range, ev_var, ev_c, ev_op, ev_un, ev_args, ev_nil, ev_cons, ev_frz, ev_b, ev_and, ev_or, ev_not, ev_andV, ev_orV, ev_notV, ev_if, ev_chain, ev_isi, ev_ixOwn, ev_lenOwn, ev_call, ev_callK, ev_sl, ev_part, ev_true, ev_nm, ev_toB, frz, frzAt, toSeq_tup, toSeq_lst, toSeq_cl, toRet, mWipe, kbG, Mir.gTup, Mir.gLst, List.getElem?_cons_zero, List.getElem?_cons_succ, List.set_cons_zero, List.set_cons_succ, List.length_cons, List.length_nil, List.append_nil, List.nil_append, List.cons_append, Nat.reduceAdd, Nat.reduceLeDiff, Nat.reduceEqDiff, Nat.zero_add, reduceIte, Bool.false_eq_true, Bool.not_true, Bool.not_false, and_self, sizeM_eq]
      have cl := h.tup
      have lp := for_ret (g := gNm 2) (b := mIfS (mNot (mB (mCall 2 (mDef 2 B_below) [] (mCons (mVar 2) (mCons (mC (.int 2)) mNil))))) (mRet (mC (.bl false))) mSkip) (xs := xs)
        (fun pre ρ S' => S' = S ∧ (∃ s, ρ = [.val (.tup xs), .val (.int n), s]) ∧ pre.all isBitP = true) (fun v S' => v = .bl false ∧ S' = S ∧ xs.all isBitP = false) (by
          rintro pre x post ρ S' ex ⟨rfl, ⟨s, rfl⟩, hp⟩
          have hx : NoObj x := (cl x (by rw [ex]; simp)).no
          cases hb : isBitP x with
          | true =>
            refine .inl ⟨_, S', .inl ?_, rfl, ⟨.val x, rfl⟩, by rw [List.all_append, hp, List.all_cons, hb]; rfl⟩
            simp only [ev_bind, ev_nox, ev_seq, ev_set, ev_setOwn, ev_share, ev_drop, ev_ret, ev_retOwn, ev_skip, ev_brk, ev_cnt, ev_ifS, ev_frzS, ev_append, ev_setIx, ev_for, ev_lc, ev_seqOf, ev_range, ev_var, ev_c, ev_op, ev_un, ev_args, ev_nil, ev_cons, ev_frz, ev_b, ev_and, ev_or, ev_not, ev_andV, ev_orV, ev_notV, ev_if, ev_chain, ev_isi, ev_ixOwn, ev_lenOwn, ev_call, ev_callK, ev_sl, ev_part, ev_true, ev_nm, ev_toB, frz, frzAt, toSeq_tup, toSeq_lst, toSeq_cl, toRet, mWipe, kbG, Mir.gTup, Mir.gLst, List.getElem?_cons_zero, List.getElem?_cons_succ, List.set_cons_zero, List.set_cons_succ, List.length_cons, List.length_nil, List.append_nil, List.nil_append, List.cons_append, Nat.reduceAdd, Nat.reduceLeDiff, Nat.reduceEqDiff, Nat.zero_add, reduceIte, Bool.false_eq_true, Bool.not_true, Bool.not_false, and_self, sizeM_eq, bel_ok hx, bel2, hb]
          | false =>
            refine .inr ⟨_, S', ?_, rfl, rfl, by rw [ex, List.all_append, hp, List.all_cons, hb]; rfl⟩
            simp only [ev_bind, ev_nox, ev_seq, ev_set, ev_setOwn, ev_share, ev_drop, ev_ret, ev_retOwn, ev_skip, ev_brk, ev_cnt, ev_ifS, ev_frzS, ev_append, ev_setIx, ev_for, ev_lc, ev_seqOf, ev_range, ev_var, ev_c, ev_op, ev_un, ev_args, ev_nil, ev_cons, ev_frz, ev_b, ev_and, ev_or, ev_not, ev_andV, ev_orV, ev_notV, ev_if, ev_chain, ev_isi, ev_ixOwn, ev_lenOwn, ev_call, ev_callK, ev_sl, ev_part, ev_true, ev_nm, ev_toB, frz, frzAt, toSeq_tup, toSeq_lst, toSeq_cl, toRet, mWipe, kbG, Mir.gTup, Mir.gLst, List.getElem?_cons_zero, List.getElem?_cons_succ, List.set_cons_zero, List.set_cons_succ, List.length_cons, List.length_nil, List.append_nil, List.nil_append, List.cons_append, Nat.reduceAdd, Nat.reduceLeDiff, Nat.reduceEqDiff, Nat.zero_add, reduceIte, Bool.false_eq_true, Bool.not_true, Bool.not_false, and_self, sizeM_eq, bel_ok hx, bel2, hb]) [.val (.tup xs), .val (.int n), .none] S ⟨rfl, ⟨_, rfl⟩, rfl⟩
      rcases lp with ⟨ρ', S', e, rfl, ⟨s, rfl⟩, ha⟩ | ⟨v, S', e, rfl, rfl, ha⟩
      · simp only [e, ev_bind, ev_nox, ev_seq, ev_set, ev_setOwn, ev_share, ev_drop, ev_ret, ev_retOwn, ev_skip, ev_brk, ev_cnt, ev_ifS, ev_frzS, ev_append, ev_setIx, ev_for, ev_lc, ev_seqOf, ev_range, ev_var, ev_c, ev_op, ev_un, ev_args, ev_nil, ev_cons, ev_frz, ev_b, ev_and, ev_or, ev_not, ev_andV, ev_orV, ev_notV, ev_if, ev_chain, ev_isi, ev_ixOwn, ev_lenOwn, ev_call, ev_callK, ev_sl, ev_part, ev_true, ev_nm, ev_toB, frz, frzAt, toSeq_tup, toSeq_lst, toSeq_cl, toRet, mWipe, kbG, Mir.gTup, Mir.gLst, List.getElem?_cons_zero, List.getElem?_cons_succ, List.set_cons_zero, List.set_cons_succ, List.length_cons, List.length_nil, List.append_nil, List.nil_append, List.cons_append, Nat.reduceAdd, Nat.reduceLeDiff, Nat.reduceEqDiff, Nat.zero_add, reduceIte, Bool.false_eq_true, Bool.not_true, Bool.not_false, and_self, sizeM_eq, rowB, hl, decide_true, ha, Bool.true_and]
      · simp only [e, ev_bind, ev_nox, ev_seq, ev_set, ev_setOwn, ev_share, ev_drop, ev_ret, ev_retOwn, ev_skip, ev_brk, ev_cnt, ev_ifS, ev_frzS, ev_append, ev_setIx, ev_for, ev_lc, ev_seqOf, ev_range, ev_var, ev_c, ev_op, ev_un, ev_args, ev_nil, ev_cons, ev_frz, ev_b, ev_and, ev_or, ev_not, ev_andV, ev_orV, ev_notV, ev_if, ev_chain, ev_isi, ev_ixOwn, ev_lenOwn, ev_call, ev_callK, ev_sl, ev_part, ev_true, ev_nm, ev_toB, frz, frzAt, toSeq_tup, toSeq_lst, toSeq_cl, toRet, mWipe, kbG, Mir.gTup, Mir.gLst, List.getElem?_cons_zero, List.getElem?_cons_succ, List.set_cons_zero, List.set_cons_succ, List.length_cons, List.length_nil, List.append_nil, List.nil_append, List.cons_append, Nat.reduceAdd, Nat.reduceLeDiff, Nat.reduceEqDiff, Nat.zero_add, reduceIte, Bool.false_eq_true, Bool.not_true, Bool.not_false, and_self, sizeM_eq, rowB, hl, decide_true, ha, Bool.true_and]
    · have e1 : decide ((xs.length : Int) = n) = false := decide_eq_false (by omega)
      simp only [e1, ev_bind, ev_nox, ev_seq, ev_set, ev_setOwn, ev_share, ev_drop, ev_ret, ev_retOwn, ev_skip, ev_brk, ev_cnt, ev_ifS, ev_frzS, ev_append, ev_setIx, ev_for, ev_lc, ev_seqOf, ev_range, ev_var, ev_c, ev_op, ev_un, ev_args, ev_nil, ev_cons, ev_frz, ev_b, ev_and, ev_or, ev_not, ev_andV, ev_orV, ev_notV, ev_if, ev_chain, ev_isi, ev_ixOwn, ev_lenOwn, ev_call, ev_callK, ev_sl, ev_part, ev_true, ev_nm, ev_toB, frz, frzAt, toSeq_tup, toSeq_lst, toSeq_cl, toRet, mWipe, kbG, Mir.gTup, Mir.gLst, List.getElem?_cons_zero, List.getElem?_cons_succ, List.set_cons_zero, List.set_cons_succ, List.length_cons, List.length_nil, List.append_nil, List.nil_append, List.cons_append, Nat.reduceAdd, Nat.reduceLeDiff, Nat.reduceEqDiff, Nat.zero_add, reduceIte, Bool.false_eq_true, Bool.not_true, Bool.not_false, and_self, sizeM_eq, rowB, hl, decide_false, Bool.false_and]
  | non => simp only [ev_bind, ev_nox, ev_seq, ev_set, ev_setOwn, ev_share, ev_drop, ev_ret, ev_retOwn, ev_skip, ev_brk, ev_cnt, ev_ifS, ev_frzS, ev_append, ev_setIx, ev_for, ev_lc, ev_seqOf, ev_range, ev_var, ev_c, ev_op, ev_un, ev_args, ev_nil, ev_cons, ev_frz, ev_b, ev_and, ev_or, ev_not, ev_andV, ev_orV, ev_notV, ev_if, ev_chain, ev_isi, ev_ixOwn, ev_lenOwn, ev_call, ev_callK, ev_sl, ev_part, ev_true, ev_nm, ev_toB, frz, frzAt, toSeq_tup, toSeq_lst, toSeq_cl, toRet, mWipe, kbG, Mir.gTup, Mir.gLst, List.getElem?_cons_zero, List.getElem?_cons_succ, List.set_cons_zero, List.set_cons_succ, List.length_cons, List.length_nil, List.append_nil, List.nil_append, List.cons_append, Nat.reduceAdd, Nat.reduceLeDiff, Nat.reduceEqDiff, Nat.zero_add, reduceIte, Bool.false_eq_true, Bool.not_true, Bool.not_false, and_self, sizeM_eq, isi_tuple h.no, isTupP]; rfl
  | bl _ => simp only [ev_bind, ev_nox, ev_seq, ev_set, ev_setOwn, ev_share, ev_drop, ev_ret, ev_retOwn, ev_skip, ev_brk, ev_cnt, ev_ifS, ev_frzS, ev_append, ev_setIx, ev_for, ev_lc, ev_seqOf, ev_range, ev_var, ev_c, ev_op, ev_un, ev_args, ev_nil, ev_cons, ev_frz, ev_b, ev_and, ev_or, ev_not, ev_andV, ev_orV, ev_notV, ev_if, ev_chain, ev_isi, ev_ixOwn, ev_lenOwn, ev_call, ev_callK, ev_sl, ev_part, ev_true, ev_nm, ev_toB, frz, frzAt, toSeq_tup, toSeq_lst, toSeq_cl, toRet, mWipe, kbG, Mir.gTup, Mir.gLst, List.getElem?_cons_zero, List.getElem?_cons_succ, List.set_cons_zero, List.set_cons_succ, List.length_cons, List.length_nil, List.append_nil, List.nil_append, List.cons_append, Nat.reduceAdd, Nat.reduceLeDiff, Nat.reduceEqDiff, Nat.zero_add, reduceIte, Bool.false_eq_true, Bool.not_true, Bool.not_false, and_self, sizeM_eq, isi_tuple h.no, isTupP]; rfl
  | int _ => simp only [ev_bind, ev_nox, ev_seq, ev_set, ev_setOwn, ev_share, ev_drop, ev_ret, ev_retOwn, ev_skip, ev_brk, ev_cnt, ev_ifS, ev_frzS, ev_append, ev_setIx, ev_for, ev_lc, ev_seqOf, ev_range, ev_var, ev_c, ev_op, ev_un, ev_args, ev_nil, ev_cons, ev_frz, ev_b, ev_and, ev_or, ev_not, ev_andV, ev_orV, ev_notV, ev_if, ev_chain, ev_isi, ev_ixOwn, ev_lenOwn, ev_call, ev_callK, ev_sl, ev_part, ev_true, ev_nm, ev_toB, frz, frzAt, toSeq_tup, toSeq_lst, toSeq_cl, toRet, mWipe, kbG, Mir.gTup, Mir.gLst, List.getElem?_cons_zero, List.getElem?_cons_succ, List.set_cons_zero, List.set_cons_succ, List.length_cons, List.length_nil, List.append_nil, List.nil_append, List.cons_append, Nat.reduceAdd, Nat.reduceLeDiff, Nat.reduceEqDiff, Nat.zero_add, reduceIte, Bool.false_eq_true, Bool.not_true, Bool.not_false, and_self, sizeM_eq, isi_tuple h.no, isTupP]; rfl
  | str _ => simp only [ev_bind, ev_nox, ev_seq, ev_set, ev_setOwn, ev_share, ev_drop, ev_ret, ev_retOwn, ev_skip, ev_brk, ev_cnt, ev_ifS, ev_frzS, ev_append, ev_setIx, ev_for, ev_lc, ev_seqOf, ev_range, ev_var, ev_c, ev_op, ev_un, ev_args, ev_nil, ev_cons, ev_frz, ev_b, ev_and, ev_or, ev_not, ev_andV, ev_orV, ev_notV, ev_if, ev_chain, ev_isi, ev_ixOwn, ev_lenOwn, ev_call, ev_callK, ev_sl, ev_part, ev_true, ev_nm, ev_toB, frz, frzAt, toSeq_tup, toSeq_lst, toSeq_cl, toRet, mWipe, kbG, Mir.gTup, Mir.gLst, List.getElem?_cons_zero, List.getElem?_cons_succ, List.set_cons_zero, List.set_cons_succ, List.length_cons, List.length_nil, List.append_nil, List.nil_append, List.cons_append, Nat.reduceAdd, Nat.reduceLeDiff, Nat.reduceEqDiff, Nat.zero_add, reduceIte, Bool.false_eq_true, Bool.not_true, Bool.not_false, and_self, sizeM_eq, isi_tuple h.no, isTupP]; rfl
  | lst _ => simp only [ev_bind, ev_nox, ev_seq, ev_set, ev_setOwn, ev_share, ev_drop, ev_ret, ev_retOwn, ev_skip, ev_brk, ev_cnt, ev_ifS, ev_frzS, ev_append, ev_setIx, ev_for, ev_lc, ev_seqOf, ev_range, ev_var, ev_c, ev_op, ev_un, ev_args, ev_nil, ev_cons, ev_frz, ev_b, ev_and, ev_or, ev_not, ev_andV, ev_orV, ev_notV, ev_if, ev_chain, ev_isi, ev_ixOwn, ev_lenOwn, ev_call, ev_callK, ev_sl, ev_part, ev_true, ev_nm, ev_toB, frz, frzAt, toSeq_tup, toSeq_lst, toSeq_cl, toRet, mWipe, kbG, Mir.gTup, Mir.gLst, List.getElem?_cons_zero, List.getElem?_cons_succ, List.set_cons_zero, List.set_cons_succ, List.length_cons, List.length_nil, List.append_nil, List.nil_append, List.cons_append, Nat.reduceAdd, Nat.reduceLeDiff, Nat.reduceEqDiff, Nat.zero_add, reduceIte, Bool.false_eq_true, Bool.not_true, Bool.not_false, and_self, sizeM_eq, isi_tuple h.no, isTupP]; rfl
  | cl _ => simp only [ev_bind, ev_nox, ev_seq, ev_set, ev_setOwn, ev_share, ev_drop, ev_ret, ev_retOwn, ev_skip, ev_brk, ev_cnt, ev_ifS, ev_frzS, ev_append, ev_setIx, ev_for, ev_lc, ev_seqOf, ev_range, ev_var, ev_c, ev_op, ev_un, ev_args, ev_nil, ev_cons, ev_frz, ev_b, ev_and, ev_or, ev_not, ev_andV, ev_orV, ev_notV, ev_if, ev_chain, ev_isi, ev_ixOwn, ev_lenOwn, ev_call, ev_callK, ev_sl, ev_part, ev_true, ev_nm, ev_toB, frz, frzAt, toSeq_tup, toSeq_lst, toSeq_cl, toRet, mWipe, kbG, Mir.gTup, Mir.gLst, List.getElem?_cons_zero, List.getElem?_cons_succ, List.set_cons_zero, List.set_cons_succ, List.length_cons, List.length_nil, List.append_nil, List.nil_append, List.cons_append, Nat.reduceAdd, Nat.reduceLeDiff, Nat.reduceEqDiff, Nat.zero_add, reduceIte, Bool.false_eq_true, Bool.not_true, Bool.not_false, and_self, sizeM_eq, isi_tuple h.no, isTupP]; rfl
theorem rowB_row {r : List Int} (h : Bits r) : rowB r.length (rowP r) = true := by
  unfold rowB rowP
  simp only [List.length_map, decide_true, Bool.true_and, List.all_eq_true]
  intro x hx
  obtain ⟨b, hb, rfl⟩ := List.mem_map.mp hx
  rcases h b hb with rfl | rfl <;> rfl
/-- these rows, as a list or tuple -/
inductive RowsV (rs : List (List Int)) : PV → Prop
  | lst : RowsV rs (.lst (rs.map rowP))
  | tup : RowsV rs (.tup (rs.map rowP))
theorem RowsV.clean {rs v} (h : RowsV rs v) : Clean v := by
  cases h
  · exact clean_lst fun x hx => by obtain ⟨r, _, rfl⟩ := List.mem_map.mp hx; exact clean_row r
  · exact clean_tup fun x hx => by obtain ⟨r, _, rfl⟩ := List.mem_map.mp hx; exact clean_row r
theorem RowsV.seq {rs v} (h : RowsV rs v) (S : Store) : toSeq v S = .ok (rs.map rowP) S := by cases h <;> rfl
/-- rows of n bits -/
def RowsN (n : Nat) (rs : List (List Int)) : Prop := ∀ r ∈ rs, r.length = n ∧ Bits r
theorem arows_ok {rs : List (List Int)} {v : PV} (hv : RowsV rs v) {n : Nat} (hr : RowsN n rs) (h0 : rs ≠ []) (S : Store) : mDef 3 B_arerows [v, .int n] S = .ok (.bl true) S := by
  have li : ∀ S, gLen [v] S = .ok (.int rs.length) S := fun S => by cases hv <;> simp only [gLen, List.length_map]
  have hl : rs.length ≠ 0 := fun q => h0 (List.eq_nil_of_length_eq_zero q)
  have e0 : decide ((rs.length : Int) = 0) = false := decide_eq_false (by omega)
  have it : ∀ S, gIsiT ["list", "tuple"] v S = .ok (.bl true) S := fun S => by
    cases hv <;> rfl
  obtain ⟨ρ', S', e, rfl, s, rfl⟩ := for_inv (g := gNm 2) (b := mIfS (mNot (mB (mCall 2 (mDef 3 B_isrow) [] (mCons (mVar 2) (mCons (mVar 1) mNil))))) (mRet (mC (.bl false))) mSkip) (xs := rs.map rowP)
    (fun pre ρ S' => S' = S ∧ ∃ s, ρ = [.val v, .val (.int n), s]) (by
      rintro pre x post ρ S' ex ⟨rfl, s, rfl⟩
      have hx : x ∈ rs.map rowP := by rw [ex]; simp
      obtain ⟨r, hr1, rfl⟩ := List.mem_map.mp hx
      obtain ⟨rl, rb⟩ := hr r hr1
      have := rowB_row rb
      rw [rl] at this
      refine ⟨_, S', .inl ?_, rfl, .val (rowP r), rfl⟩
      simp only [ev_bind, ev_nox, ev_seq, ev_set, ev_setOwn, ev_share, ev_drop, ev_ret, ev_retOwn, ev_skip, ev_brk, ev_cnt, ev_ifS, ev_frzS, ev_append, ev_setIx, ev_for, ev_lc, ev_seqOf, ev_range, ev_var, ev_c, ev_op, ev_un, ev_args, ev_nil, ev_cons, ev_frz, ev_b, ev_and, ev_or, ev_not, ev_andV, ev_orV, ev_notV, ev_if, ev_chain, ev_isi, ev_ixOwn, ev_lenOwn, ev_call, ev_callK, ev_sl, ev_part, ev_true, ev_nm, ev_toB, frz, frzAt, toSeq_tup, toSeq_lst, toSeq_cl, toRet, mWipe, kbG, Mir.gTup, Mir.gLst, List.getElem?_cons_zero, List.getElem?_cons_succ, List.set_cons_zero, List.set_cons_succ, List.length_cons, List.length_nil, List.append_nil, List.nil_append, List.cons_append, Nat.reduceAdd, Nat.reduceLeDiff, Nat.reduceEqDiff, Nat.zero_add, reduceIte, Bool.false_eq_true, Bool.not_true, Bool.not_false, and_self, sizeM_eq, irow_ok (clean_row r), this]) [.val v, .val (.int n), .none] S ⟨rfl, _, rfl⟩
  show (B_arerows [.val v, .val (.int n), .none] S').bind toRet = _
  have ei : ∀ {a : Rho → Store → Res PV} {Ts : List String} {ρ : Rho} {S : Store}, mIsiT Ts a ρ S = (a ρ S).bind fun x S1 => gIsiT Ts x S1 := rfl
  unfold B_arerows
  simp only [ev_bind, ev_nox, ev_seq, ev_set, ev_setOwn, ev_share, ev_drop, ev_ret, ev_retOwn, ev_skip, ev_brk, ev_cnt, ev_ifS, ev_frzS, ev_append, ev_setIx, ev_for, ev_lc, ev_seqOf, ev_range, ev_var, ev_c, ev_op, ev_un, ev_args, ev_nil, ev_cons, ev_frz, ev_b, ev_and, ev_or, ev_not, ev_andV, ev_orV, ev_notV, ev_if, ev_chain, ev_isi, ev_ixOwn, ev_lenOwn, ev_call, ev_callK, ev_sl, ev_part, ev_true, ev_nm, ev_toB, frz, frzAt, toSeq_tup, toSeq_lst, toSeq_cl, toRet, mWipe, kbG, Mir.gTup, Mir.gLst, List.getElem?_cons_zero, List.getElem?_cons_succ, List.set_cons_zero, List.set_cons_succ, List.length_cons, List.length_nil, List.append_nil, List.nil_append, List.cons_append, Nat.reduceAdd, Nat.reduceLeDiff, Nat.reduceEqDiff, Nat.zero_add, reduceIte, Bool.false_eq_true, Bool.not_true, Bool.not_false, and_self, sizeM_eq, ei, it, li, eqD_int, e0, hv.seq, e]
/-! ### relations -/
def G_rel : List (Rho → Store → Res Unit) := [(mGuard (mOr (mNot (mB (mCall 2 (mDef 2 B_below) [] (mCons (mVar 1) (mCons (mOp gAddA (mC (.int 4)) (mC (.int 1))) mNil))))) (mOr (mB (mOp (gEqD false) (mVar 1) (mC (.int 0)))) (mNot (mB (mCall 2 (mDef 3 B_arerows) [] (mCons (mVar 2) (mCons (mVar 1) mNil))))))) (mRaise "InvalidRelation" ["value"] (mCons (mArgs gTup (mCons (mVar 1) (mCons (mVar 2) mNil))) mNil)))]
def F_rel : List (Rho → Store → Res PV) := [(mVar 1),
  (mArgs gTuple (mCons (mFrz (mSortD 1000000 (mSeqOf (mVar 2)) (gNm 3) mTrue (mVar 3) (mC (.bl true)) [3])) mNil))]
def M_rel : List PV → Store → Res (List PV) := mInit 4 G_rel F_rel
def relV (n : Nat) (rs : List (List Int)) : PV := .ins "Relation" ["size", "rows"] [.int n, .tup (rs.map rowP)]
theorem toRow_row (r : List Int) : toRow (rowP r) = some r := mapM_int r
theorem toRows_rows : ∀ rs : List (List Int), (rs.map rowP).mapM toRow = some rs
  | [] => rfl
  | r :: rs => by
    rw [List.map_cons, List.mapM_cons, toRow_row, toRows_rows rs]
    rfl
theorem rowsB_rows {n : Nat} (hn : 1 ≤ n) {rs : List (List Int)} (hr : RowsN n rs) (hl : rs.length < 64) : rowsB 1000000 rs = true := by
  unfold rowsB
  rw [decide_eq_true hl, Bool.true_and]
  cases rs with
  | nil => rfl
  | cons r l =>
    have r0 := hr r List.mem_cons_self
    simp only [Bool.and_eq_true, decide_eq_true_eq, List.all_eq_true]
    refine ⟨by omega, fun q hq => ⟨by rw [(hr q hq).1, r0.1], fun b hb => ?_⟩⟩
    rcases (hr q hq).2 b hb with rfl | rfl <;> decide
theorem sortV_ok {n : Nat} (hn : 1 ≤ n) {rs : List (List Int)} (hr : RowsN n rs) (hl : rs.length < 64) (S : Store) : sortV 1000000 (rs.map rowP) S = .ok (.lst ((sortR 1000000 (dedupR rs)).map rowP)) S := by
  unfold sortV
  rw [toRows_rows]
  show (if rowsB 1000000 rs = true then _ else _) = _
  rw [if_pos (rowsB_rows hn hr hl)]
  rfl
theorem rel_ok {rs : List (List Int)} {v : PV} (hv : RowsV rs v) {n : Nat} (hn : 1 ≤ n) (hn4 : n ≤ 4) (hr : RowsN n rs) (h0 : rs ≠ []) (hl : rs.length < 64) (S : Store) : M_rel [.int n, v] S = .ok [.int n, .tup ((sortR 1000000 (dedupR rs)).map rowP)] S := by
  have lc : mLcGo (gNm 3) mTrue (mKey (mVar 3) (mC (.bl true))) [.none, .val (.int n), .val v, .none] (rs.map rowP) S = .ok (rs.map rowP) S := lc_mapL rowP rowP fun r _ => by
    refine ⟨_, rfl, rfl, ?_⟩
    simp only [ev_make, ev_fldI, ev_isiC, ev_sortD, ev_key, ev_join, ev_bind, ev_nox, ev_seq, ev_set, ev_setOwn, ev_share, ev_drop, ev_ret, ev_retOwn, ev_skip, ev_brk, ev_cnt, ev_ifS, ev_frzS, ev_append, ev_setIx, ev_for, ev_lc, ev_seqOf, ev_range, ev_var, ev_c, ev_op, ev_un, ev_args, ev_nil, ev_cons, ev_frz, ev_b, ev_and, ev_or, ev_not, ev_andV, ev_orV, ev_notV, ev_if, ev_chain, ev_isi, ev_ixOwn, ev_lenOwn, ev_call, ev_callK, ev_sl, ev_part, ev_true, ev_nm, ev_toB, frz, frzAt, toSeq_tup, toSeq_lst, toSeq_cl, toRet, mWipe, kbG, Mir.gTup, Mir.gLst, List.getElem?_cons_zero, List.getElem?_cons_succ, List.set_cons_zero, List.set_cons_succ, List.length_cons, List.length_nil, List.append_nil, List.nil_append, List.cons_append, Nat.reduceAdd, Nat.reduceLeDiff, Nat.reduceEqDiff, Nat.zero_add, reduceIte, Bool.false_eq_true, Bool.not_true, Bool.not_false, and_self, sizeM_eq, toRow_row]
  have b1 : ∀ S, mDef 2 B_below [.int n, .int 5] S = .ok (.bl true) S := fun S => by
    rw [bel_ok (v := .int n) (show NoObj (.int n) from rfl)]
    show Res.ok (PV.bl (decide ((0 : Int) ≤ n) && decide ((n : Int) < 5))) S = _
    rw [decide_eq_true (by omega), decide_eq_true (by omega)]
    rfl
  have e0 : decide ((n : Int) = 0) = false := decide_eq_false (by omega)
  have z : rs.length ≤ 100000 := by omega
  show mBody G_rel F_rel [.none, .val (.int n), .val v, .none] S = _
  unfold G_rel F_rel
  unfold mBody mGuard
  simp only [ev_bind, ev_nox, ev_seq, ev_set, ev_setOwn, ev_share, ev_drop, ev_ret, ev_retOwn, ev_skip, ev_brk, ev_cnt, ev_ifS, ev_frzS, ev_append, ev_setIx, ev_for, ev_lc, ev_seqOf, ev_range, ev_var, ev_c, ev_op, ev_un, ev_args, ev_nil, ev_cons, ev_frz, ev_b, ev_and, ev_or, ev_not, ev_andV, ev_orV, ev_notV, ev_if, ev_chain, ev_isi, ev_ixOwn, ev_lenOwn, ev_call, ev_callK, ev_sl, ev_part, ev_true, ev_nm, ev_toB, frz, frzAt, toSeq_tup, toSeq_lst, toSeq_cl, toRet, mWipe, kbG, Mir.gTup, Mir.gLst, List.getElem?_cons_zero, List.getElem?_cons_succ, List.set_cons_zero, List.set_cons_succ, List.length_cons, List.length_nil, List.append_nil, List.nil_append, List.cons_append, Nat.reduceAdd, Nat.reduceLeDiff, Nat.reduceEqDiff, Nat.zero_add, reduceIte, Bool.false_eq_true, Bool.not_true, Bool.not_false, and_self, sizeM_eq, gAddA, gAdd, show (4 : Int) + 1 = 5 from rfl, b1, eqD_int, e0, arows_ok hv hr h0]
  unfold mBody mFields mFields mFields
  simp only [ev_make, ev_fldI, ev_isiC, ev_sortD, ev_key, ev_join, ev_bind, ev_nox, ev_seq, ev_set, ev_setOwn, ev_share, ev_drop, ev_ret, ev_retOwn, ev_skip, ev_brk, ev_cnt, ev_ifS, ev_frzS, ev_append, ev_setIx, ev_for, ev_lc, ev_seqOf, ev_range, ev_var, ev_c, ev_op, ev_un, ev_args, ev_nil, ev_cons, ev_frz, ev_b, ev_and, ev_or, ev_not, ev_andV, ev_orV, ev_notV, ev_if, ev_chain, ev_isi, ev_ixOwn, ev_lenOwn, ev_call, ev_callK, ev_sl, ev_part, ev_true, ev_nm, ev_toB, frz, frzAt, toSeq_tup, toSeq_lst, toSeq_cl, toRet, mWipe, kbG, Mir.gTup, Mir.gLst, List.getElem?_cons_zero, List.getElem?_cons_succ, List.set_cons_zero, List.set_cons_succ, List.length_cons, List.length_nil, List.append_nil, List.nil_append, List.cons_append, Nat.reduceAdd, Nat.reduceLeDiff, Nat.reduceEqDiff, Nat.zero_add, reduceIte, Bool.false_eq_true, Bool.not_true, Bool.not_false, and_self, sizeM_eq, hv.seq, List.length_map, z, lc, sortV_ok hn hr hl, gTuple]
end Mir
set_option maxHeartbeats 4000000
/-! MirO: small facts: ranges, filters, rows in order. -/
namespace Mir
open PySem L2
theorem rngN {n : Nat} (h : n ≤ 100000) (S : Store) : gRange1 [.int n] S = .ok (rng n) S := by
  have : range62 (n : Int) = true := range62_ok (by omega) (by omega)
  unfold gRange1 rng
  simp only [this, if_true, Int.toNat_natCast]
theorem rngN_len (n : Nat) : (rng n).length = n := by unfold rng; simp
section
variable {g : PV → Rho → Store → Res Rho} {t : Rho → Store → Res Bool} {a : Rho → Store → Res PV} {ρ : Rho}
theorem lc_filterL {α : Type} {S : Store} (F G : α → PV) (p : α → Bool) : ∀ {ps : List α}, (∀ x ∈ ps, ∃ ρ1, g (F x) ρ S = .ok ρ1 S ∧ t ρ1 S = .ok (p x) S ∧ (p x = true → a ρ1 S = .ok (G x) S)) → mLcGo g t a ρ (ps.map F) S = .ok ((ps.filter p).map G) S
  | [], _ => rfl
  | x :: ps, h => by
    obtain ⟨ρ1, e1, e2, e3⟩ := h x List.mem_cons_self
    have ih := lc_filterL F G p (ps := ps) fun q hq => h q (List.mem_cons_of_mem _ hq)
    cases hp : p x with
    | true => simp only [List.map_cons, mLcGo, e1, e2, e3 hp, hp, Res.nox, Res.bind, ih, if_pos, List.filter_cons]
    | false => simp only [List.map_cons, mLcGo, e1, e2, hp, Res.nox, Res.bind, ih, List.filter_cons, Bool.false_eq_true, if_false]
end
section
variable {g : PV → Rho → Store → Res Rho} {t : Rho → Store → Res Bool} {a : Rho → Store → Res PV} {ρ : Rho}
/-- a comprehension whose test draws -/
theorem lc_pick {α : Type} (F G : α → PV) (Pv : Store → Prop) : ∀ {ps : List α}, (∀ x ∈ ps, ∀ S, Pv S → ∃ ρ1 c S', g (F x) ρ S = .ok ρ1 S ∧ t ρ1 S = .ok c S' ∧ Pv S' ∧ (c = true → a ρ1 S' = .ok (G x) S')) → ∀ S, Pv S → ∃ (bs : List α) (S' : Store), mLcGo g t a ρ (ps.map F) S = .ok (bs.map G) S' ∧ Pv S' ∧ bs.Sublist ps
  | [], _, S, h => ⟨[], S, rfl, h, .slnil⟩
  | x :: ps, h, S, hS => by
    obtain ⟨ρ1, c, S1, e1, e2, h1, e3⟩ := h x List.mem_cons_self S hS
    obtain ⟨bs, S2, e4, h2, sl⟩ := lc_pick F G Pv (ps := ps) (fun q hq => h q (List.mem_cons_of_mem _ hq)) S1 h1
    cases c with
    | true => exact ⟨x :: bs, S2, by simp only [List.map_cons, mLcGo, e1, e2, e3 rfl, Res.nox, Res.bind, e4, if_pos], h2, sl.cons₂ x⟩
    | false => exact ⟨bs, S2, by simp only [List.map_cons, mLcGo, e1, e2, Res.nox, Res.bind, e4, Bool.false_eq_true, if_false], h2, sl.cons x⟩
/-- a comprehension whose items draw -/
theorem lc_make {α β : Type} (F : α → PV) (G : β → PV) (Pv : Store → Prop) (Ok : β → Prop) : ∀ {ps : List α}, (∀ x ∈ ps, ∀ S, Pv S → ∃ ρ1 b S', g (F x) ρ S = .ok ρ1 S ∧ t ρ1 S = .ok true S ∧ a ρ1 S = .ok (G b) S' ∧ Pv S' ∧ Ok b) → ∀ S, Pv S → ∃ (bs : List β) (S' : Store), mLcGo g t a ρ (ps.map F) S = .ok (bs.map G) S' ∧ Pv S' ∧ bs.length = ps.length ∧ ∀ b ∈ bs, Ok b
  | [], _, S, h => ⟨[], S, rfl, h, rfl, fun _ m => nomatch m⟩
  | x :: ps, h, S, hS => by
    obtain ⟨ρ1, b, S1, e1, e2, e3, h1, ob⟩ := h x List.mem_cons_self S hS
    obtain ⟨bs, S2, e4, h2, hl, ok⟩ := lc_make F G Pv Ok (ps := ps) (fun q hq => h q (List.mem_cons_of_mem _ hq)) S1 h1
    refine ⟨b :: bs, S2, by simp only [List.map_cons, mLcGo, e1, e2, e3, Res.nox, Res.bind, e4, if_pos], h2, by simp [hl], fun c hc => ?_⟩
    rcases List.mem_cons.mp hc with rfl | hc
    · exact ob
    · exact ok c hc
end
section
variable {g : PV → Rho → Store → Res Rho} {b : Rho → Store → Res Out}
/-- a loop over the images of a list -/
theorem for_map {α : Type} (F : α → PV) {ps : List α} (Pv : List α → Rho → Store → Prop)
    (h : ∀ pre x post ρ S, ps = pre ++ x :: post → Pv pre ρ S → ∃ ρ' S', ((g (F x) ρ S).bind (fun ρ1 S1 => b ρ1 S1) = .ok (.nx ρ') S' ∨ (g (F x) ρ S).bind (fun ρ1 S1 => b ρ1 S1) = .ok (.ct ρ') S') ∧ Pv (pre ++ [x]) ρ' S') :
    ∀ ρ S, Pv [] ρ S → ∃ ρ' S', mForGo g b (ps.map F) ρ S = .ok (.nx ρ') S' ∧ Pv ps ρ' S' := fun ρ S h0 => by
  obtain ⟨ρ', S', e, l, hl, pre, hp⟩ := for_inv (g := g) (b := b) (xs := ps.map F) (fun pre ρ S => ∃ l : List α, l.length = pre.length ∧ l <+: ps ∧ Pv l ρ S) (by
    rintro pre x post ρ S ex ⟨l, hl, ⟨q, rfl⟩, hp⟩
    rw [List.map_append] at ex
    obtain ⟨e1, e2⟩ := List.append_inj ex (by rw [List.length_map, hl])
    cases q with
    | nil => cases e2
    | cons y q =>
      rw [List.map_cons] at e2
      injection e2 with e2 e3
      obtain ⟨ρ', S', e, hp'⟩ := h l y q ρ S rfl hp
      rw [e2] at e
      exact ⟨ρ', S', e, l ++ [y], by simp [hl], ⟨q, by simp⟩, hp'⟩) ρ S ⟨[], rfl, ⟨ps, rfl⟩, h0⟩
  refine ⟨ρ', S', e, ?_⟩
  obtain ⟨q, hq⟩ := pre
  have : q = [] := by
    have := congrArg List.length hq
    rw [List.length_append, hl, List.length_map] at this
    exact List.eq_nil_of_length_eq_zero (by omega)
  subst this
  rw [List.append_nil] at hq
  rw [← hq]
  exact hp
end
/-- x in a list of ints, as plain membership -/
theorem inD_ints0 (c : Int) (ps : List Int) (S : Store) : gInD false (.int c) (.lst (ps.map PV.int)) S = .ok (.bl (ps.any fun z => decide (z = c))) S := by
  rw [inD_ints]
  have : inB false c ps = ps.any fun z => decide (z = c) := by
    show ((ps.map PyData.int).any fun z => PyData.eqv z (.int c)) = _
    induction ps with
    | nil => rfl
    | cons p ps ih =>
      simp only [List.map_cons, List.any_cons, ih, PyData.eqv]
      rfl
  rw [this]
/-! rows in order -/
def Asc (rs : List (List Int)) : Prop := rs.Pairwise fun q r => TS.code 1000000 q < TS.code 1000000 r
theorem rowsE_asc {n : Nat} (h : n ≤ 4) : Asc (rowsE n) := by
  have key : ∀ n ∈ [0, 1, 2, 3, 4], (rowsE n).Pairwise fun q r => decide (TS.code 1000000 q < TS.code 1000000 r) = true := by decide +kernel
  have := key n (by simp only [List.mem_cons, List.not_mem_nil, or_false]; omega)
  exact this.imp fun h => of_decide_eq_true h
theorem asc_sub {rs qs : List (List Int)} (h : Asc qs) (s : rs.Sublist qs) : Asc rs := List.Pairwise.sublist s h
theorem asc_sort {rs : List (List Int)} (h : Asc rs) : sortR 1000000 (dedupR rs) = rs := by rw [dedupR_id h, sortR_id h]
theorem rowsE_few {n : Nat} (h : n ≤ 4) : (rowsE n).length < 64 := by
  have key : ∀ n ∈ [0, 1, 2, 3, 4], (rowsE n).length < 64 := by decide +kernel
  exact key n (by simp only [List.mem_cons, List.not_mem_nil, or_false]; omega)
/-- a relation of rows that stand in order -/
theorem rel_asc {rs : List (List Int)} {v : PV} (hv : RowsV rs v) {n : Nat} (hn : 1 ≤ n) (hn4 : n ≤ 4) (s : rs.Sublist (rowsE n)) (h0 : rs ≠ []) (S : Store) : M_rel [.int n, v] S = .ok [.int n, .tup (rs.map rowP)] S := by
  rw [rel_ok hv hn hn4 (fun r hr => rowsE_mem (s.subset hr)) h0 (Nat.lt_of_le_of_lt s.length_le (rowsE_few hn4)), asc_sort (asc_sub (rowsE_asc hn4) s)]
end Mir
set_option maxHeartbeats 4000000
/-! MirP0: mirrors that several laws share (printed by cpq.py from a law's walk). -/
namespace Mir
open PySem L2
def Bq_is_bit : Rho → Store → Res Out :=
  (mRet (mAndV (mIsi "int" (mVar 0)) (mAndV (mNotV (mIsi "bool" (mVar 0))) (mChain gLe gLe (mC (.int 0)) (mVar 0) (mC (.int 1))))))
def Mq_is_bit : List PV → Store → Res PV := mDef 1 Bq_is_bit
def Bq_is_table : Rho → Store → Res Out :=
  (mSeq (mIfS (mOr (mNot (mB (mIsi "tuple" (mVar 0)))) (mB (mOp (gEqD true) (mArgs gLen (mCons (mVar 0) mNil)) (mOp gIx (mC (.tup [(.int (1)), (.int (2)), (.int (4)), (.int (8)), (.int (16))])) (mVar 1)))))
    (mRet (mC (.bl false)))
    mSkip)
    (mSeq (mFor (mSeqOf (mVar 0)) (gNm 2)
    (mIfS (mNot (mB (mCall 1 Mq_is_bit [] (mCons (mVar 2) mNil))))
    (mRet (mC (.bl false)))
    mSkip))
    (mRet (mC (.bl true)))))
def Mq_is_table : List PV → Store → Res PV := mDef 3 Bq_is_table
def Bq_number_of : Rho → Store → Res Out :=
  (mSeq (mSet 1 (mC (.int 0)))
    (mSeq (mFor (mSeqOf (mVar 0)) (gNm 2)
    (mSet 1 (mOp gAddA (mOp gMulA (mC (.int 2)) (mVar 1)) (mVar 2))))
    (mRet (mVar 1))))
def Mq_number_of : List PV → Store → Res PV := mDef 3 Bq_number_of
def Bq_spelled : Rho → Store → Res Out :=
  (mRet (mArgs gTuple (mCons (mFrz (mLc (mRange gRange1 (mCons (mArgs gLen (mCons (mOp gIx (mVar 0) (mC (.int 0))) mNil)) mNil)) (gNm 1) mTrue (mCall 1 Mq_number_of [] (mCons (mFrz (mLc (mSeqOf (mVar 0)) (gNm 2) mTrue (mOp gIx (mVar 2) (mVar 1)) [2])) mNil)) [1])) mNil)))
def Mq_spelled : List PV → Store → Res PV := mDef 3 Bq_spelled
def Bq_made_row : Rho → Store → Res Out :=
  (mRet (mArgs gTuple (mCons (mFrz (mLc (mSeqOf (mCall 1 Mq_spelled [] (mCons (mVar 1) mNil))) (gNm 2) mTrue (mOp gIx (mVar 0) (mVar 2)) [2])) mNil)))
def Mq_made_row : List PV → Store → Res PV := mDef 3 Bq_made_row
def Bq_tuples_of : Rho → Store → Res Out :=
  (mSeq (mSet 2 (mFrz (mArgs gLst (mCons (mArgs gTup mNil) mNil))))
    (mSeq (mFor (mRange gRange1 (mCons (mVar 1) mNil)) (gNm 3)
    (mSet 2 (mFrz (mLc2 (mSeqOf (mVar 2)) (gNm 4) mTrue (mSeqOf (mVar 0)) (gNm 5) mTrue (mOp gAddA (mVar 4) (mArgs gTup (mCons (mVar 5) mNil))) [4, 5] [5]))))
    (mRet (mVar 2))))
def Mq_tuples_of : List PV → Store → Res PV := mDef 6 Bq_tuples_of
def Bq_break_in : Rho → Store → Res Out :=
  (mSeq (mFor (mSeqOf (mCall 2 Mq_tuples_of [] (mCons (mFldI "Relation" "rows" (mVar 0)) (mCons (mIndexT (mC (.tup [(.int (1)), (.int (2)), (.int (4)), (.int (8)), (.int (16))])) (mCons (mArgs gLen (mCons (mVar 1) mNil)) mNil)) mNil)))) (gNm 2)
    (mIfS (mB (mOp (gInD true) (mCall 2 Mq_made_row [] (mCons (mVar 1) (mCons (mVar 2) mNil))) (mFldI "Relation" "rows" (mVar 0))))
    (mRet (mVar 2))
    mSkip))
    (mRet (mC .non)))
def Mq_break_in : List PV → Store → Res PV := mDef 3 Bq_break_in
def Bq_break_of : Rho → Store → Res Out :=
  (mSeq (mIfS (mB (mOp (gEqD false) (mFrz (mLc (mRange gRange2 (mCons (mC (.int 1)) (mCons (mC (.int 5)) mNil))) (gNm 5) (mB (mCall 2 Mq_is_table [] (mCons (mVar 1) (mCons (mVar 5) mNil)))) (mVar 5) [5])) (mFrz (mArgs gLst mNil))))
    (mRaise "InvalidTable" ["value"] (mCons (mVar 1) mNil))
    mSkip)
    (mSeq (mFor (mRange gEnum (mCons (mFldI "Book" "relations" (mVar 0)) mNil)) (gUn 2 (gsCons (gNm 2) (gsCons (gNm 3) gsNil)))
    (mSeq (mSet 4 (mCall 2 Mq_break_in [] (mCons (mVar 3) (mCons (mVar 1) mNil))))
    (mIfS (mB (mOp gIsN (mVar 4) (mC .non)))
    (mRet (mArgs gTup (mCons (mVar 2) (mCons (mVar 4) mNil))))
    mSkip)))
    (mRet (mC .non))))
def Mq_break_of : List PV → Store → Res PV := mDef 6 Bq_break_of
def Bq_is_below : Rho → Store → Res Out :=
  (mRet (mAndV (mIsi "int" (mVar 0)) (mAndV (mNotV (mIsi "bool" (mVar 0))) (mChain gLe gLt (mC (.int 0)) (mVar 0) (mVar 1)))))
def Mq_is_below : List PV → Store → Res PV := mDef 2 Bq_is_below
def Bq_is_row : Rho → Store → Res Out :=
  (mSeq (mIfS (mOr (mNot (mB (mIsi "tuple" (mVar 0)))) (mB (mOp (gEqD true) (mArgs gLen (mCons (mVar 0) mNil)) (mVar 1))))
    (mRet (mC (.bl false)))
    mSkip)
    (mSeq (mFor (mSeqOf (mVar 0)) (gNm 2)
    (mIfS (mNot (mB (mCall 2 Mq_is_below [] (mCons (mVar 2) (mCons (mC (.int 2)) mNil)))))
    (mRet (mC (.bl false)))
    mSkip))
    (mRet (mC (.bl true)))))
def Mq_is_row : List PV → Store → Res PV := mDef 3 Bq_is_row
def Bq_are_rows : Rho → Store → Res Out :=
  (mSeq (mIfS (mOr (mNot (mB (mIsiT ["list", "tuple"] (mVar 0)))) (mB (mOp (gEqD false) (mArgs gLen (mCons (mVar 0) mNil)) (mC (.int 0)))))
    (mRet (mC (.bl false)))
    mSkip)
    (mSeq (mFor (mSeqOf (mVar 0)) (gNm 2)
    (mIfS (mNot (mB (mCall 2 Mq_is_row [] (mCons (mVar 2) (mCons (mVar 1) mNil)))))
    (mRet (mC (.bl false)))
    mSkip))
    (mRet (mC (.bl true)))))
def Mq_are_rows : List PV → Store → Res PV := mDef 3 Bq_are_rows
def gsq_Relation : List (Rho → Store → Res Unit) := [(mGuard (mOr (mNot (mB (mCall 2 Mq_is_below [] (mCons (mVar 1) (mCons (mOp gAddA (mC (.int (4))) (mC (.int 1))) mNil))))) (mOr (mB (mOp (gEqD false) (mVar 1) (mC (.int 0)))) (mNot (mB (mCall 2 Mq_are_rows [] (mCons (mVar 2) (mCons (mVar 1) mNil))))))) (mRaise "InvalidRelation" ["value"] (mCons (mArgs gTup (mCons (mVar 1) (mCons (mVar 2) mNil))) mNil)))]
def fsq_Relation : List (Rho → Store → Res PV) := [(mVar 1),
  (mArgs gTuple (mCons (mFrz (mSortD 1000000 (mSeqOf (mVar 2)) (gNm 3) mTrue (mVar 3) (mC (.bl true)) [3])) mNil))]
def Mq_Relation : List PV → Store → Res (List PV) := mInit 4 gsq_Relation fsq_Relation
def Bq_are_relations : Rho → Store → Res Out :=
  (mSeq (mIfS (mOr (mNot (mB (mIsiT ["list", "tuple"] (mVar 0)))) (mNot (mB (mChain gLe gLe (mC (.int 1)) (mArgs gLen (mCons (mVar 0) mNil)) (mC (.int (6)))))))
    (mRet (mC (.bl false)))
    mSkip)
    (mSeq (mFor (mSeqOf (mVar 0)) (gNm 1)
    (mIfS (mNot (mB (mIsiC "Relation" (mVar 1))))
    (mRet (mC (.bl false)))
    mSkip))
    (mRet (mC (.bl true)))))
def Mq_are_relations : List PV → Store → Res PV := mDef 2 Bq_are_relations
def gsq_Book : List (Rho → Store → Res Unit) := [(mGuard (mNot (mB (mCall 1 Mq_are_relations [] (mCons (mVar 1) mNil)))) (mRaise "InvalidBook" ["value"] (mCons (mVar 1) mNil)))]
def fsq_Book : List (Rho → Store → Res PV) := [(mArgs gTuple (mCons (mVar 1) mNil)),
  (mArgs gTuple (mCons (mFrz (mLc (mSeqOf (mVar 1)) (gNm 2) mTrue (mArgs gTup (mCons (mFldI "Relation" "size" (mVar 2)) (mCons (mFldI "Relation" "rows" (mVar 2)) mNil))) [2])) mNil))]
def Mq_Book : List PV → Store → Res (List PV) := mInit 3 gsq_Book fsq_Book
def Bq__law_take : Rho → Store → Res Out :=
  (mSeq (mSet 2 (mOp gIx (mVar 0) (mC (.int 1))))
    (mSeq (mSetIx 0 (mC (.int 1)) (mOp gAddA (mVar 2) (mC (.int 1))))
    (mSeq (mSet 3 (mOp gIx (mVar 0) (mC (.int 0))))
    (mSeq (mIfS (mB (mOp gGeA (mVar 2) (mArgs gLen (mCons (mVar 3) mNil))))
    (mRet (mC (.int 0)))
    mSkip)
    (mRet (mOp gMod (mOp gFdiv (mArgs gInt (mCons (mOp gIx (mVar 3) (mVar 2)) mNil)) (mC (.int 7))) (mVar 1)))))))
def Mq__law_take : List PV → Store → Res PV := mDef 4 Bq__law_take
def Bq__law_every : Rho → Store → Res Out :=
  (mSeq (mSet 1 (mFrz (mArgs gLst (mCons (mArgs gTup mNil) mNil))))
    (mSeq (mFor (mRange gRange1 (mCons (mVar 0) mNil)) (gNm 2)
    (mSeq (mSet 3 (mFrz (mArgs gLst mNil)))
    (mSeq (mFor (mSeqOf (mVar 1)) (gNm 4)
    (mSet 3 (mOp gAddA (mVar 3) (mFrz (mArgs gLst (mCons (mOp gAddA (mVar 4) (mArgs gTup (mCons (mC (.int 0)) mNil))) (mCons (mOp gAddA (mVar 4) (mArgs gTup (mCons (mC (.int 1)) mNil))) mNil)))))))
    (mSet 1 (mVar 3)))))
    (mRet (mVar 1))))
def Mq__law_every : List PV → Store → Res PV := mDef 5 Bq__law_every
def Bq__law_rows : Rho → Store → Res Out :=
  (mSeq (mSet 3 (mCall 1 Mq__law_every [] (mCons (mVar 1) mNil)))
    (mSeq (mSetOwn 4 (mArgs gLst mNil))
    (mSeq (mFor (mRange gRange1 (mCons (mOp gAddA (mC (.int 1)) (mCall 2 Mq__law_take [] (mCons (mVar 0) (mCons (mVar 2) mNil)))) mNil)) (gNm 5)
    (mSeq (mSet 6 (mOp gIx (mVar 3) (mCall 2 Mq__law_take [] (mCons (mVar 0) (mCons (mArgs gLen (mCons (mVar 3) mNil)) mNil)))))
    (mIfS (mB (mInOwn true 4 (mVar 6)))
    (mAppend 4 (mVar 6))
    mSkip)))
    (mFrzS 4 (mRet (mArgs gTuple (mCons (mFrz (mArgs (gSortL 1000000) (mCons (mVar 4) mNil))) mNil)))))))
def Mq__law_rows : List PV → Store → Res PV := mDef 7 Bq__law_rows
def Bq__law_place : Rho → Store → Res Out :=
  (mSeq (mSet 1 (mC (.int 0)))
    (mSeq (mFor (mSeqOf (mVar 0)) (gNm 2)
    (mSet 1 (mOp gAddA (mOp gMulA (mC (.int 2)) (mVar 1)) (mVar 2))))
    (mRet (mVar 1))))
def Mq__law_place : List PV → Store → Res PV := mDef 3 Bq__law_place
def Bq__law_made : Rho → Store → Res Out :=
  (mRet (mArgs gTuple (mCons (mFrz (mLc (mRange gRange1 (mCons (mArgs gLen (mCons (mOp gIx (mVar 1) (mC (.int 0))) mNil)) mNil)) (gNm 2) mTrue (mOp gIx (mVar 0) (mCall 1 Mq__law_place [] (mCons (mFrz (mLc (mSeqOf (mVar 1)) (gNm 3) mTrue (mOp gIx (mVar 3) (mVar 2)) [3])) mNil))) [2])) mNil)))
def Mq__law_made : List PV → Store → Res PV := mDef 4 Bq__law_made
def Bq__law_tuples : Rho → Store → Res Out :=
  (mSeq (mSet 2 (mFrz (mArgs gLst (mCons (mArgs gTup mNil) mNil))))
    (mSeq (mFor (mRange gRange1 (mCons (mVar 1) mNil)) (gNm 3)
    (mSeq (mSet 4 (mFrz (mArgs gLst mNil)))
    (mSeq (mFor (mSeqOf (mVar 2)) (gNm 5)
    (mSet 4 (mOp gAddA (mVar 4) (mFrz (mLc (mSeqOf (mVar 0)) (gNm 6) mTrue (mOp gAddA (mVar 5) (mArgs gTup (mCons (mVar 6) mNil))) [6])))))
    (mSet 2 (mVar 4)))))
    (mRet (mVar 2))))
def Mq__law_tuples : List PV → Store → Res PV := mDef 7 Bq__law_tuples
def Bq__law_break : Rho → Store → Res Out :=
  (mSeq (mSet 3 (mOp gIx (mVar 0) (mC (.int 1))))
    (mSeq (mFor (mSeqOf (mCall 2 Mq__law_tuples [] (mCons (mVar 3) (mCons (mVar 2) mNil)))) (gNm 4)
    (mIfS (mB (mOp (gInD true) (mCall 2 Mq__law_made [] (mCons (mVar 1) (mCons (mVar 4) mNil))) (mVar 3)))
    (mRet (mVar 4))
    mSkip))
    (mRet (mC .non))))
def Mq__law_break : List PV → Store → Res PV := mDef 5 Bq__law_break
def Bq__law_six : Rho → Store → Res Out :=
  (mRet (mFrz (mArgs gLst (mCons (mArgs gTup (mCons (mC (.str "all no")) (mCons (mArgs gTup (mCons (mC (.int 0)) (mCons (mC (.int 0)) mNil))) mNil))) (mCons (mArgs gTup (mCons (mC (.str "all yes")) (mCons (mArgs gTup (mCons (mC (.int 1)) (mCons (mC (.int 1)) mNil))) mNil))) (mCons (mArgs gTup (mCons (mC (.str "and")) (mCons (mArgs gTup (mCons (mC (.int 0)) (mCons (mC (.int 0)) (mCons (mC (.int 0)) (mCons (mC (.int 1)) mNil))))) mNil))) (mCons (mArgs gTup (mCons (mC (.str "or")) (mCons (mArgs gTup (mCons (mC (.int 0)) (mCons (mC (.int 1)) (mCons (mC (.int 1)) (mCons (mC (.int 1)) mNil))))) mNil))) (mCons (mArgs gTup (mCons (mC (.str "majority")) (mCons (mArgs gTup (mCons (mC (.int 0)) (mCons (mC (.int 0)) (mCons (mC (.int 0)) (mCons (mC (.int 1)) (mCons (mC (.int 0)) (mCons (mC (.int 1)) (mCons (mC (.int 1)) (mCons (mC (.int 1)) mNil))))))))) mNil))) (mCons (mArgs gTup (mCons (mC (.str "odd one")) (mCons (mArgs gTup (mCons (mC (.int 0)) (mCons (mC (.int 1)) (mCons (mC (.int 1)) (mCons (mC (.int 0)) (mCons (mC (.int 1)) (mCons (mC (.int 0)) (mCons (mC (.int 0)) (mCons (mC (.int 1)) mNil))))))))) mNil))) mNil)))))))))
def Mq__law_six : List PV → Store → Res PV := mDef 0 Bq__law_six
def Bq__law_places_of : Rho → Store → Res Out :=
  (mRet (mOp gIx (mFrz (mArgs gLst (mCons (mC (.int 1)) (mCons (mC (.int 2)) (mCons (mC (.int 3)) (mCons (mC (.int 4)) mNil)))))) (mIndex (mFrz (mArgs gLst (mCons (mC (.int 2)) (mCons (mC (.int 4)) (mCons (mC (.int 8)) (mCons (mC (.int 16)) mNil)))))) (mCons (mArgs gLen (mCons (mVar 0) mNil)) mNil))))
def Mq__law_places_of : List PV → Store → Res PV := mDef 1 Bq__law_places_of
def Bq__law_closed : Rho → Store → Res Out :=
  (mSeq (mSet 2 (mCall 1 Mq__law_places_of [] (mCons (mVar 1) mNil)))
    (mSeq (mSet 3 (mFrz (mArgs gList (mCons (mVar 0) mNil))))
    (mSeq (mFor (mRange gRange1 (mCons (mC (.int 16)) mNil)) (gNm 4)
    (mSeq (mIfS (mB (mOp gGt (mArgs gLen (mCons (mVar 3) mNil)) (mC (.int 8))))
    (mRet (mVar 0))
    mSkip)
    (mSeq (mSetOwn 5 (mArgs gLst mNil))
    (mSeq (mFor (mSeqOf (mCall 2 Mq__law_tuples [] (mCons (mVar 3) (mCons (mVar 2) mNil)))) (gNm 6)
    (mSeq (mSet 7 (mCall 2 Mq__law_made [] (mCons (mVar 1) (mCons (mVar 6) mNil))))
    (mIfS (mAnd (mB (mOp (gInD true) (mVar 7) (mVar 3))) (mB (mInOwn true 5 (mVar 7))))
    (mAppend 5 (mVar 7))
    mSkip)))
    (mFrzS 5 (mSeq (mIfS (mB (mOp (gEqD false) (mArgs gLen (mCons (mVar 5) mNil)) (mC (.int 0))))
    mBrk
    mSkip)
    (mSet 3 (mOp gAddA (mVar 3) (mVar 5)))))))))
    (mRet (mArgs gTuple (mCons (mFrz (mArgs (gSortL 1000000) (mCons (mVar 3) mNil))) mNil))))))
def Mq__law_closed : List PV → Store → Res PV := mDef 8 Bq__law_closed
def Bq__law_drawn_book : Rho → Store → Res Out :=
  (mSeq (mSetOwn 1 (mArgs gLst mNil))
    (mSeq (mFor (mRange gRange1 (mCons (mOp gIx (mFrz (mArgs gLst (mCons (mC (.int 1)) (mCons (mC (.int 1)) (mCons (mC (.int 1)) (mCons (mC (.int 2)) (mCons (mC (.int 2)) (mCons (mC (.int 3)) mNil)))))))) (mCall 2 Mq__law_take [] (mCons (mVar 0) (mCons (mC (.int 6)) mNil)))) mNil)) (gNm 2)
    (mSeq (mSet 3 (mOp gIx (mFrz (mArgs gLst (mCons (mC (.int 1)) (mCons (mC (.int 2)) (mCons (mC (.int 2)) (mCons (mC (.int 3)) (mCons (mC (.int 3)) (mCons (mC (.int 4)) mNil)))))))) (mCall 2 Mq__law_take [] (mCons (mVar 0) (mCons (mC (.int 6)) mNil)))))
    (mSeq (mSet 4 (mCall 3 Mq__law_rows [] (mCons (mVar 0) (mCons (mVar 3) (mCons (mOp gIx (mFrz (mArgs gLst (mCons (mC (.int 2)) (mCons (mC (.int 4)) (mCons (mC (.int 7)) mNil))))) (mCall 2 Mq__law_take [] (mCons (mVar 0) (mCons (mC (.int 3)) mNil)))) mNil)))))
    (mSeq (mIfS (mB (mOp (gEqD false) (mCall 2 Mq__law_take [] (mCons (mVar 0) (mCons (mC (.int 2)) mNil))) (mC (.int 0))))
    (mSet 4 (mCall 2 Mq__law_closed [] (mCons (mVar 4) (mCons (mOp gIx (mOp gIx (mCall 0 Mq__law_six [] mNil) (mCall 2 Mq__law_take [] (mCons (mVar 0) (mCons (mC (.int 6)) mNil)))) (mC (.int 1))) mNil))))
    mSkip)
    (mAppend 1 (mArgs gTup (mCons (mVar 3) (mCons (mVar 4) mNil))))))))
    (mRetOwn 1)))
def Mq__law_drawn_book : List PV → Store → Res PV := mDef 5 Bq__law_drawn_book
def Bq__law_book : Rho → Store → Res Out :=
  (mRet (mMake 1 "Book" ["relations", "plain"] Mq_Book (mCons (mFrz (mLc (mSeqOf (mVar 0)) (gTupM 2 (gsCons (gNm 1) (gsCons (gNm 2) gsNil))) mTrue (mMake 2 "Relation" ["size", "rows"] Mq_Relation (mCons (mVar 1) (mCons (mVar 2) mNil))) [1, 2])) mNil)))
def Mq__law_book : List PV → Store → Res PV := mDef 3 Bq__law_book
def Bq__law_drawn_table : Rho → Store → Res Out :=
  (mSeq (mSet 2 (mCall 2 Mq__law_take [] (mCons (mVar 0) (mCons (mC (.int 4)) mNil))))
    (mSeq (mSet 3 (mFrz (mLc (mSeqOf (mCall 0 Mq__law_six [] mNil)) (gTupM 2 (gsCons (gNm 5) (gsCons (gNm 6) gsNil))) (mB (mOp (gEqD false) (mArgs gLen (mCons (mVar 6) mNil)) (mOp gShl (mC (.int 1)) (mVar 1)))) (mVar 6) [5, 6])))
    (mSeq (mIfS (mAnd (mB (mOp (gEqD false) (mVar 2) (mC (.int 0)))) (mB (mOp gGt (mArgs gLen (mCons (mVar 3) mNil)) (mC (.int 0)))))
    (mRet (mOp gIx (mVar 3) (mCall 2 Mq__law_take [] (mCons (mVar 0) (mCons (mArgs gLen (mCons (mVar 3) mNil)) mNil)))))
    mSkip)
    (mSeq (mIfS (mB (mOp (gEqD false) (mVar 2) (mC (.int 1))))
    (mSeq (mSet 4 (mCall 2 Mq__law_take [] (mCons (mVar 0) (mCons (mVar 1) mNil))))
    (mRet (mArgs gTuple (mCons (mFrz (mLc (mSeqOf (mCall 1 Mq__law_every [] (mCons (mVar 1) mNil))) (gNm 7) mTrue (mArgs gInt (mCons (mOp (gEqD true) (mOp gIx (mVar 7) (mVar 4)) (mC (.int 0))) mNil)) [7])) mNil))))
    mSkip)
    (mRet (mArgs gTuple (mCons (mFrz (mLc (mSeqOf (mCall 1 Mq__law_every [] (mCons (mVar 1) mNil))) (gNm 7) mTrue (mCall 2 Mq__law_take [] (mCons (mVar 0) (mCons (mC (.int 2)) mNil))) [7])) mNil)))))))
def Mq__law_drawn_table : List PV → Store → Res PV := mDef 8 Bq__law_drawn_table
def Bq__law_due : Rho → Store → Res Out :=
  (mSeq (mFor (mRange gRange1 (mCons (mArgs gLen (mCons (mVar 0) mNil)) mNil)) (gNm 3)
    (mSeq (mSet 4 (mCall 3 Mq__law_break [] (mCons (mOp gIx (mVar 0) (mVar 3)) (mCons (mVar 1) (mCons (mVar 2) mNil)))))
    (mIfS (mB (mOp gIsN (mVar 4) (mC .non)))
    (mRet (mArgs gTup (mCons (mVar 3) (mCons (mVar 4) mNil))))
    mSkip)))
    (mRet (mC .non)))
def Mq__law_due : List PV → Store → Res PV := mDef 5 Bq__law_due
end Mir
set_option maxHeartbeats 4000000
/-! MirP: rows made by tables, tuples of rows. -/
namespace Mir
open PySem L2
theorem dq_take : Mq__law_take = mDef 4 B_take := rfl
theorem dq_every : Mq__law_every = mDef 5 B_every := rfl
theorem dq_number : Mq_number_of = mDef 3 B_place := rfl
theorem dq_place : Mq__law_place = mDef 3 B_place := rfl
theorem dq_rel : Mq_Relation = M_rel := rfl
theorem ix_t {xs : List PV} {k : Int} {S : Store} : gIx (.tup xs) (.int k) S = match atI xs k with
  | some y => .ok y S
  | none => .bad := nrfl rfl
theorem ix_l {xs : List PV} {k : Int} {S : Store} : gIx (.lst xs) (.int k) S = match atI xs k with
  | some y => .ok y S
  | none => .bad := nrfl rfl
theorem ix_row {r : List Int} {k : Nat} (h : k < r.length) (S : Store) : gIx (rowP r) (.int k) S = .ok (.int (r.getD k 0)) S := by
  unfold rowP gIx
  simp only [atI_row h]
theorem mapM_bls : ∀ bs : List Bool, (bs.map PV.bl).mapM toBl = some bs
  | [] => rfl
  | b :: bs => by
    rw [List.map_cons, List.mapM_cons, mapM_bls bs]
    rfl
theorem nat_of {v : Int} {n : Nat} (h0 : 0 ≤ v) (h1 : v < n) : ∃ k : Nat, v = k ∧ k < n := ⟨v.toNat, by omega, by omega⟩
theorem takeq {S R : Store} {many : Int} (h : Hand S R) (hm : 0 < many) : ∃ v S', Mq__law_take [.obj 0, .int many] S = .ok (.int v) S' ∧ Hand S' R ∧ 0 ≤ v ∧ v < many := take_ok h hm
/-! ### comprehensions of two clauses, nothing stored -/
theorem lc2_flat {α β : Type} {n : Nat} {g : PV → Rho → Store → Res Rho} {t : Rho → Store → Res Bool} {it1 : Rho → Store → Res (List PV)} {g1 : PV → Rho → Store → Res Rho} {t1 : Rho → Store → Res Bool} {e : Rho → Store → Res PV} {vs1 : List Nat} {ρ : Rho} {S : Store} (F : α → PV) (F1 : β → PV) (G : α → β → PV) (qs : List β) (hz : qs.length * n ≤ 100000) :
    ∀ {ps : List α}, (∀ p ∈ ps, ∃ ρ1, g (F p) ρ S = .ok ρ1 S ∧ t ρ1 S = .ok true S ∧ it1 ρ1 S = .ok (qs.map F1) S ∧ ∀ q ∈ qs, ∃ ρ2, g1 (F1 q) (mWipe ρ1 vs1) S = .ok ρ2 S ∧ t1 ρ2 S = .ok true S ∧ e ρ2 S = .ok (G p q) S) →
      mLc2Go n g t it1 g1 t1 e vs1 ρ (ps.map F) S = .ok (ps.flatMap fun p => qs.map (G p)) S
  | [], _ => rfl
  | p :: ps, h => by
    obtain ⟨ρ1, e1, e2, e3, e4⟩ := h p List.mem_cons_self
    have ih := lc2_flat F F1 G qs hz (ps := ps) fun q hq => h q (List.mem_cons_of_mem _ hq)
    have lc := lc_mapL F1 (G p) e4
    have hz' : (qs.map F1).length * n ≤ sizeM := by rw [List.length_map]; exact hz
    simp only [List.map_cons, mLc2Go, e1, e2, e3, Res.nox, Res.bind, if_true, hz', lc, ih, List.flatMap_cons]
theorem ev_lc2 {it : Rho → Store → Res (List PV)} {g : PV → Rho → Store → Res Rho} {t : Rho → Store → Res Bool} {it1 : Rho → Store → Res (List PV)} {g1 : PV → Rho → Store → Res Rho} {t1 : Rho → Store → Res Bool} {e : Rho → Store → Res PV} {vs vs1 : List Nat} {ρ : Rho} {S : Store} :
    mLc2 it g t it1 g1 t1 e vs vs1 ρ S = (it ρ S).bind fun xs S1 => (mLc2Go xs.length g t it1 g1 t1 e vs1 (mWipe ρ vs) xs S1).bind fun ys S2 => .ok (.lst ys) S2 := nrfl rfl
/-! ### made rows -/
def tupV (t : List (List Int)) : PV := .tup (t.map rowP)
/-- m rows of n values -/
def Tu (n m : Nat) (t : List (List Int)) : Prop := t.length = m ∧ RowsN n t
def TabM (m : Nat) (tb : List Int) : Prop := tb.length = 2 ^ m ∧ Bits tb
theorem colN_ok {n m : Nat} {t : List (List Int)} (h : Tu n m t) (j : Nat) : (colN t j).length = m ∧ Bits (colN t j) := by
  refine ⟨by unfold colN; rw [List.length_map]; exact h.1, fun b hb => ?_⟩
  obtain ⟨r, hr, rfl⟩ := List.mem_map.mp hb
  exact bit_at (h.2 r hr).2 j
theorem madeN_ok {m : Nat} {tb : List Int} (hb : Bits tb) (t : List (List Int)) (n : Nat) : (madeN tb t n).length = n ∧ Bits (madeN tb t n) := by
  unfold madeN
  refine ⟨by simp, fun b hb' => ?_⟩
  obtain ⟨j, _, rfl⟩ := List.mem_map.mp hb'
  exact bit_at hb _
theorem first_ix {n m : Nat} (hm : 1 ≤ m) {t : List (List Int)} (h : Tu n m t) : ∃ r0, r0.length = n ∧ ∀ S, gIx (tupV t) (.int 0) S = .ok (rowP r0) S := by
  cases t with
  | nil => have := h.1; simp at this; omega
  | cons r t => exact ⟨r, (h.2 r List.mem_cons_self).1, fun S => by unfold tupV; rw [List.map_cons, ix_t, at0]⟩
theorem col_lc {n m : Nat} {t : List (List Int)} (h : Tu n m t) {j : Nat} (hj : j < n) {ρ : Rho} {S : Store} {i k : Nat} (hg : ∀ r, (mVar i) (ρ.set i (.val (rowP r))) S = .ok (rowP r) S) (hk : ∀ r, (mVar k) (ρ.set i (.val (rowP r))) S = .ok (.int j) S) : mLcGo (gNm i) mTrue (mOp gIx (mVar i) (mVar k)) ρ (t.map rowP) S = .ok ((colN t j).map PV.int) S := by
  unfold colN
  rw [List.map_map]
  refine lc_mapL rowP (fun r => PV.int (r.getD j 0)) fun r hr => ⟨_, rfl, rfl, ?_⟩
  simp only [ev_op, hg, hk, ev_bind, ix_row (show j < r.length by rw [(h.2 r hr).1]; exact hj)]
theorem spell_ok {n m : Nat} (hn : n ≤ 1000) (hm : 1 ≤ m) (hm2 : m ≤ 1000) {t : List (List Int)} (h : Tu n m t) (S : Store) : Mq_spelled [tupV t] S = .ok (rowP ((List.range n).map fun j => numOf (colN t j))) S := by
  obtain ⟨r0, rl, e0⟩ := first_ix hm h
  have zm : t.length ≤ 100000 := by rw [h.1]; omega
  have zn : n ≤ 100000 := by omega
  have lr : ∀ S, gLen [rowP r0] S = .ok (.int n) S := fun S => by unfold rowP; simp only [gLen, List.length_map, rl]
  have lc := lc_mapL (g := gNm 1) (t := mTrue) (a := mCall 1 Mq_number_of [] (mCons (mFrz (mLc (mSeqOf (mVar 0)) (gNm 2) mTrue (mOp gIx (mVar 2) (mVar 1)) [2])) mNil)) (ρ := [.val (tupV t), .none, .none]) (S := S) (fun j : Nat => PV.int j) (fun j => PV.int (numOf (colN t j))) (ps := List.range n) (fun j hj => by
    have hj : j < n := by simpa using hj
    have cl := col_lc h hj (ρ := [.val (tupV t), .val (.int j), .none]) (S := S) (i := 2) (k := 1) (fun _ => rfl) (fun _ => rfl)
    have pl : mDef 3 B_place [.lst ((colN t j).map PV.int)] S = .ok (.int (numOf (colN t j))) S := place_ok rfl
    refine ⟨_, rfl, rfl, ?_⟩
    rw [dq_number]
    unfold tupV at cl ⊢
    simp only [ev_bind, ev_nox, ev_seq, ev_set, ev_setOwn, ev_share, ev_drop, ev_ret, ev_retOwn, ev_skip, ev_brk, ev_cnt, ev_ifS, ev_frzS, ev_append, ev_setIx, ev_for, ev_lc, ev_seqOf, ev_range, ev_var, ev_c, ev_op, ev_un, ev_args, ev_nil, ev_cons, ev_frz, ev_b, ev_and, ev_or, ev_not, ev_andV, ev_orV, ev_notV, ev_if, ev_chain, ev_isi, ev_ixOwn, ev_lenOwn, ev_call, ev_callK, ev_sl, ev_part, ev_true, ev_nm, ev_toB, frz, frzAt, toSeq_tup, toSeq_lst, toSeq_cl, toRet, mWipe, kbG, Mir.gTup, Mir.gLst, List.getElem?_cons_zero, List.getElem?_cons_succ, List.set_cons_zero, List.set_cons_succ, List.length_cons, List.length_nil, List.append_nil, List.nil_append, List.cons_append, Nat.reduceAdd, Nat.reduceLeDiff, Nat.reduceEqDiff, Nat.zero_add, reduceIte, Bool.false_eq_true, Bool.not_true, Bool.not_false, and_self, sizeM_eq, List.length_map, zm, cl, pl])
  have lc' : mLcGo (gNm 1) mTrue (mCall 1 Mq_number_of [] (mCons (mFrz (mLc (mSeqOf (mVar 0)) (gNm 2) mTrue (mOp gIx (mVar 2) (mVar 1)) [2])) mNil)) [.val (tupV t), .none, .none] (rng n) S = .ok ((List.range n).map fun j => PV.int (numOf (colN t j))) S := lc
  show (Bq_spelled [.val (tupV t), .none, .none] S).bind toRet = _
  unfold Bq_spelled
  simp only [ev_bind, ev_nox, ev_seq, ev_set, ev_setOwn, ev_share, ev_drop, ev_ret, ev_retOwn, ev_skip, ev_brk, ev_cnt, ev_ifS, ev_frzS, ev_append, ev_setIx, ev_for, ev_lc, ev_seqOf, ev_range, ev_var, ev_c, ev_op, ev_un, ev_args, ev_nil, ev_cons, ev_frz, ev_b, ev_and, ev_or, ev_not, ev_andV, ev_orV, ev_notV, ev_if, ev_chain, ev_isi, ev_ixOwn, ev_lenOwn, ev_call, ev_callK, ev_sl, ev_part, ev_true, ev_nm, ev_toB, frz, frzAt, toSeq_tup, toSeq_lst, toSeq_cl, toRet, mWipe, kbG, Mir.gTup, Mir.gLst, List.getElem?_cons_zero, List.getElem?_cons_succ, List.set_cons_zero, List.set_cons_succ, List.length_cons, List.length_nil, List.append_nil, List.nil_append, List.cons_append, Nat.reduceAdd, Nat.reduceLeDiff, Nat.reduceEqDiff, Nat.zero_add, reduceIte, Bool.false_eq_true, Bool.not_true, Bool.not_false, and_self, sizeM_eq, e0, lr, rngN zn, rngN_len, zn, lc', gTuple]
  unfold rowP
  rw [List.map_map]
  rfl
theorem tab_ix {m : Nat} {tb : List Int} (hT : TabM m tb) {n : Nat} {t : List (List Int)} (h : Tu n m t) (j : Nat) (S : Store) : gIx (rowP tb) (.int (numOf (colN t j))) S = .ok (.int (tb.getD (numOf (colN t j)).toNat 0)) S := by
  obtain ⟨c1, c2⟩ := colN_ok h j
  obtain ⟨n0, n1⟩ := numOf_lt m _ c1 c2
  have e : (((2 ^ m : Nat) : Int)) = 2 ^ m := by push_cast; rfl
  have hk : (numOf (colN t j)).toNat < tb.length := by rw [hT.1]; omega
  have := ix_row (S := S) hk
  rwa [Int.toNat_of_nonneg n0] at this
theorem made_ok {n m : Nat} (hn : n ≤ 1000) (hm : 1 ≤ m) (hm2 : m ≤ 1000) {tb : List Int} (hT : TabM m tb) {t : List (List Int)} (h : Tu n m t) (S : Store) : Mq_made_row [rowP tb, tupV t] S = .ok (rowP (madeN tb t n)) S := by
  have lc := lc_mapL (g := gNm 2) (t := mTrue) (a := mOp gIx (mVar 0) (mVar 2)) (ρ := [.val (rowP tb), .val (tupV t), .none]) (S := S) (fun j : Nat => PV.int (numOf (colN t j))) (fun j => PV.int (tb.getD (numOf (colN t j)).toNat 0)) (ps := List.range n) (fun j _ => by
    refine ⟨_, rfl, rfl, ?_⟩
    simp only [ev_bind, ev_nox, ev_seq, ev_set, ev_setOwn, ev_share, ev_drop, ev_ret, ev_retOwn, ev_skip, ev_brk, ev_cnt, ev_ifS, ev_frzS, ev_append, ev_setIx, ev_for, ev_lc, ev_seqOf, ev_range, ev_var, ev_c, ev_op, ev_un, ev_args, ev_nil, ev_cons, ev_frz, ev_b, ev_and, ev_or, ev_not, ev_andV, ev_orV, ev_notV, ev_if, ev_chain, ev_isi, ev_ixOwn, ev_lenOwn, ev_call, ev_callK, ev_sl, ev_part, ev_true, ev_nm, ev_toB, frz, frzAt, toSeq_tup, toSeq_lst, toSeq_cl, toRet, mWipe, kbG, Mir.gTup, Mir.gLst, List.getElem?_cons_zero, List.getElem?_cons_succ, List.set_cons_zero, List.set_cons_succ, List.length_cons, List.length_nil, List.append_nil, List.nil_append, List.cons_append, Nat.reduceAdd, Nat.reduceLeDiff, Nat.reduceEqDiff, Nat.zero_add, reduceIte, Bool.false_eq_true, Bool.not_true, Bool.not_false, and_self, sizeM_eq, tab_ix hT h])
  have zn : n ≤ 100000 := by omega
  have sp := spell_ok hn hm hm2 h
  unfold rowP at sp lc ⊢
  rw [List.map_map] at sp
  have lc' : mLcGo (gNm 2) mTrue (mOp gIx (mVar 0) (mVar 2)) [.val (.tup (tb.map PV.int)), .val (tupV t), .none] ((List.range n).map (PV.int ∘ fun j => numOf (colN t j))) S = .ok ((List.range n).map fun j => PV.int (tb.getD (numOf (colN t j)).toNat 0)) S := lc
  show (Bq_made_row [.val (.tup (tb.map PV.int)), .val (tupV t), .none] S).bind toRet = _
  unfold Bq_made_row madeN
  simp only [ev_bind, ev_nox, ev_seq, ev_set, ev_setOwn, ev_share, ev_drop, ev_ret, ev_retOwn, ev_skip, ev_brk, ev_cnt, ev_ifS, ev_frzS, ev_append, ev_setIx, ev_for, ev_lc, ev_seqOf, ev_range, ev_var, ev_c, ev_op, ev_un, ev_args, ev_nil, ev_cons, ev_frz, ev_b, ev_and, ev_or, ev_not, ev_andV, ev_orV, ev_notV, ev_if, ev_chain, ev_isi, ev_ixOwn, ev_lenOwn, ev_call, ev_callK, ev_sl, ev_part, ev_true, ev_nm, ev_toB, frz, frzAt, toSeq_tup, toSeq_lst, toSeq_cl, toRet, mWipe, kbG, Mir.gTup, Mir.gLst, List.getElem?_cons_zero, List.getElem?_cons_succ, List.set_cons_zero, List.set_cons_succ, List.length_cons, List.length_nil, List.append_nil, List.nil_append, List.cons_append, Nat.reduceAdd, Nat.reduceLeDiff, Nat.reduceEqDiff, Nat.zero_add, reduceIte, Bool.false_eq_true, Bool.not_true, Bool.not_false, and_self, sizeM_eq, sp, List.length_map, List.length_range, zn, lc', gTuple, List.map_map]
  rfl
theorem lmade_ok {n m : Nat} (hn : n ≤ 1000) (hm : 1 ≤ m) (hm2 : m ≤ 1000) {tb : List Int} (hT : TabM m tb) {t : List (List Int)} (h : Tu n m t) (S : Store) : Mq__law_made [rowP tb, tupV t] S = .ok (rowP (madeN tb t n)) S := by
  obtain ⟨r0, rl, e0⟩ := first_ix hm h
  have zm : t.length ≤ 100000 := by rw [h.1]; omega
  have zn : n ≤ 100000 := by omega
  have lr : ∀ S, gLen [rowP r0] S = .ok (.int n) S := fun S => by unfold rowP; simp only [gLen, List.length_map, rl]
  have lc := lc_mapL (g := gNm 2) (t := mTrue) (a := mOp gIx (mVar 0) (mCall 1 Mq__law_place [] (mCons (mFrz (mLc (mSeqOf (mVar 1)) (gNm 3) mTrue (mOp gIx (mVar 3) (mVar 2)) [3])) mNil))) (ρ := [.val (rowP tb), .val (tupV t), .none, .none]) (S := S) (fun j : Nat => PV.int j) (fun j => PV.int (tb.getD (numOf (colN t j)).toNat 0)) (ps := List.range n) (fun j hj => by
    have hj : j < n := by simpa using hj
    have cl := col_lc h hj (ρ := [.val (rowP tb), .val (tupV t), .val (.int j), .none]) (S := S) (i := 3) (k := 2) (fun _ => rfl) (fun _ => rfl)
    have pl : mDef 3 B_place [.lst ((colN t j).map PV.int)] S = .ok (.int (numOf (colN t j))) S := place_ok rfl
    have ti := tab_ix hT h j
    refine ⟨_, rfl, rfl, ?_⟩
    rw [dq_place]
    unfold tupV at cl ⊢
    simp only [ev_bind, ev_nox, ev_seq, ev_set, ev_setOwn, ev_share, ev_drop, ev_ret, ev_retOwn, ev_skip, ev_brk, ev_cnt, ev_ifS, ev_frzS, ev_append, ev_setIx, ev_for, ev_lc, ev_seqOf, ev_range, ev_var, ev_c, ev_op, ev_un, ev_args, ev_nil, ev_cons, ev_frz, ev_b, ev_and, ev_or, ev_not, ev_andV, ev_orV, ev_notV, ev_if, ev_chain, ev_isi, ev_ixOwn, ev_lenOwn, ev_call, ev_callK, ev_sl, ev_part, ev_true, ev_nm, ev_toB, frz, frzAt, toSeq_tup, toSeq_lst, toSeq_cl, toRet, mWipe, kbG, Mir.gTup, Mir.gLst, List.getElem?_cons_zero, List.getElem?_cons_succ, List.set_cons_zero, List.set_cons_succ, List.length_cons, List.length_nil, List.append_nil, List.nil_append, List.cons_append, Nat.reduceAdd, Nat.reduceLeDiff, Nat.reduceEqDiff, Nat.zero_add, reduceIte, Bool.false_eq_true, Bool.not_true, Bool.not_false, and_self, sizeM_eq, List.length_map, zm, cl, pl, ti])
  have lc' : mLcGo (gNm 2) mTrue (mOp gIx (mVar 0) (mCall 1 Mq__law_place [] (mCons (mFrz (mLc (mSeqOf (mVar 1)) (gNm 3) mTrue (mOp gIx (mVar 3) (mVar 2)) [3])) mNil))) [.val (rowP tb), .val (tupV t), .none, .none] (rng n) S = .ok ((List.range n).map fun j => PV.int (tb.getD (numOf (colN t j)).toNat 0)) S := lc
  show (Bq__law_made [.val (rowP tb), .val (tupV t), .none, .none] S).bind toRet = _
  unfold Bq__law_made madeN
  simp only [ev_bind, ev_nox, ev_seq, ev_set, ev_setOwn, ev_share, ev_drop, ev_ret, ev_retOwn, ev_skip, ev_brk, ev_cnt, ev_ifS, ev_frzS, ev_append, ev_setIx, ev_for, ev_lc, ev_seqOf, ev_range, ev_var, ev_c, ev_op, ev_un, ev_args, ev_nil, ev_cons, ev_frz, ev_b, ev_and, ev_or, ev_not, ev_andV, ev_orV, ev_notV, ev_if, ev_chain, ev_isi, ev_ixOwn, ev_lenOwn, ev_call, ev_callK, ev_sl, ev_part, ev_true, ev_nm, ev_toB, frz, frzAt, toSeq_tup, toSeq_lst, toSeq_cl, toRet, mWipe, kbG, Mir.gTup, Mir.gLst, List.getElem?_cons_zero, List.getElem?_cons_succ, List.set_cons_zero, List.set_cons_succ, List.length_cons, List.length_nil, List.append_nil, List.nil_append, List.cons_append, Nat.reduceAdd, Nat.reduceLeDiff, Nat.reduceEqDiff, Nat.zero_add, reduceIte, Bool.false_eq_true, Bool.not_true, Bool.not_false, and_self, sizeM_eq, e0, lr, rngN zn, rngN_len, zn, lc', gTuple]
  unfold rowP
  rw [List.map_map]
  rfl
/-! ### tuples of rows -/
def tuplesN (rs : List (List Int)) : Nat → List (List (List Int))
  | 0 => [[]]
  | m + 1 => (tuplesN rs m).flatMap fun t => rs.map fun r => t ++ [r]
theorem tuplesN_len (rs : List (List Int)) : ∀ m, (tuplesN rs m).length = rs.length ^ m
  | 0 => rfl
  | m + 1 => by
    have h := tuplesN_len rs m
    have e : ∀ l : List (List (List Int)), (l.flatMap fun t => rs.map fun r => t ++ [r]).length = l.length * rs.length := fun l => by
      induction l with
      | nil => simp
      | cons x l ih => rw [List.flatMap_cons, List.length_append, ih, List.length_map, List.length_cons, Nat.add_mul]; omega
    show ((tuplesN rs m).flatMap _).length = _
    rw [e, h, Nat.pow_succ]
theorem tuplesN_mem {rs : List (List Int)} {n : Nat} (hr : RowsN n rs) : ∀ {m : Nat} {t : List (List Int)}, t ∈ tuplesN rs m → Tu n m t ∧ ∀ r ∈ t, r ∈ rs
  | 0, t, h => by
    have e : t = [] := by simpa [tuplesN] using h
    subst e
    exact ⟨⟨rfl, fun _ m => nomatch m⟩, fun _ m => nomatch m⟩
  | m + 1, t, h => by
    obtain ⟨t', h1, h2⟩ := List.mem_flatMap.mp (show t ∈ (tuplesN rs m).flatMap fun t => rs.map fun r => t ++ [r] from h)
    obtain ⟨r, hr2, rfl⟩ := List.mem_map.mp h2
    obtain ⟨⟨q1, q2⟩, q3⟩ := tuplesN_mem hr h1
    refine ⟨⟨by simp [q1], fun x hx => ?_⟩, fun x hx => ?_⟩
    · rcases List.mem_append.mp hx with z | z
      · exact q2 x z
      · rw [List.mem_singleton.mp z]; exact hr r hr2
    · rcases List.mem_append.mp hx with z | z
      · exact q3 x z
      · rw [List.mem_singleton.mp z]; exact hr2
theorem pow_le {a k m : Nat} (h : a ^ m ≤ 90000) (hk : k + 1 ≤ m) (h0 : 1 ≤ a) : a * a ^ k ≤ 100000 := by
  have : a ^ (k + 1) ≤ a ^ m := Nat.pow_le_pow_right h0 hk
  rw [Nat.pow_succ] at this
  rw [Nat.mul_comm]
  omega
theorem addT (t : List (List Int)) (r : List Int) (hz : t.length < 1000) (S : Store) : gAddA (tupV t) (.tup [rowP r]) S = .ok (tupV (t ++ [r])) S := by
  have z1 : (t.map rowP).length + 1 ≤ 100000 := by rw [List.length_map]; omega
  unfold tupV
  simp only [gAddA, gAdd, List.length_cons, List.length_nil, Nat.zero_add, sizeM_eq, z1, reduceIte, List.map_append, List.map_cons, List.map_nil]
/-- the rows, as a list or tuple -/
theorem tuples_ok {rs : List (List Int)} {v : PV} (hv : RowsV rs v) (h0 : rs ≠ []) {m : Nat} (hz : rs.length ^ m ≤ 90000) (hm : m ≤ 100) (S : Store) : Mq_tuples_of [v, .int m] S = .ok (.lst ((tuplesN rs m).map tupV)) S := by
  have hp : 1 ≤ rs.length := Nat.pos_of_ne_zero fun q => h0 (List.eq_nil_of_length_eq_zero q)
  obtain ⟨ρ', S', e, rfl, s3, s4, s5, rfl⟩ := for_map (g := gNm 3) (b := mSet 2 (mFrz (mLc2 (mSeqOf (mVar 2)) (gNm 4) mTrue (mSeqOf (mVar 0)) (gNm 5) mTrue (mOp gAddA (mVar 4) (mArgs Mir.gTup (mCons (mVar 5) mNil))) [4, 5] [5]))) (fun k : Nat => PV.int k) (ps := List.range m)
    (fun pre ρ S' => S' = S ∧ ∃ s3 s4 s5, ρ = [.val v, .val (.int m), .val (.lst ((tuplesN rs pre.length).map tupV)), s3, s4, s5]) (by
      rintro pre k post ρ S' ex ⟨rfl, s3, s4, s5, rfl⟩
      have hk : pre.length + 1 ≤ m := by
        have := congrArg List.length ex
        rw [List.length_range, List.length_append, List.length_cons] at this
        omega
      have lc := lc2_flat (n := (tuplesN rs pre.length).length) (g := gNm 4) (t := mTrue) (it1 := mSeqOf (mVar 0)) (g1 := gNm 5) (t1 := mTrue) (e := mOp gAddA (mVar 4) (mArgs Mir.gTup (mCons (mVar 5) mNil))) (vs1 := [5]) (ρ := [.val v, .val (.int m), .val (.lst ((tuplesN rs pre.length).map tupV)), .val (.int k), .none, .none]) (S := S')
        tupV rowP (fun t r => tupV (t ++ [r])) rs (by rw [tuplesN_len]; exact pow_le hz hk hp) (ps := tuplesN rs pre.length) (fun t ht => by
          refine ⟨_, rfl, rfl, ?_, fun r hr => ⟨_, rfl, rfl, ?_⟩⟩
          · simp only [ev_bind, ev_nox, ev_seq, ev_set, ev_setOwn, ev_share, ev_drop, ev_ret, ev_retOwn, ev_skip, ev_brk, ev_cnt, ev_ifS, ev_frzS, ev_append, ev_setIx, ev_for, ev_lc, ev_seqOf, ev_range, ev_var, ev_c, ev_op, ev_un, ev_args, ev_nil, ev_cons, ev_frz, ev_b, ev_and, ev_or, ev_not, ev_andV, ev_orV, ev_notV, ev_if, ev_chain, ev_isi, ev_ixOwn, ev_lenOwn, ev_call, ev_callK, ev_sl, ev_part, ev_true, ev_nm, ev_toB, frz, frzAt, toSeq_tup, toSeq_lst, toSeq_cl, toRet, mWipe, kbG, Mir.gTup, Mir.gLst, List.getElem?_cons_zero, List.getElem?_cons_succ, List.set_cons_zero, List.set_cons_succ, List.length_cons, List.length_nil, List.append_nil, List.nil_append, List.cons_append, Nat.reduceAdd, Nat.reduceLeDiff, Nat.reduceEqDiff, Nat.zero_add, reduceIte, Bool.false_eq_true, Bool.not_true, Bool.not_false, and_self, sizeM_eq, hv.seq]
          · have hl : t.length < 1000 := by
              have key : ∀ (j : Nat) (t : List (List Int)), t ∈ tuplesN rs j → t.length = j := fun j => by
                induction j with
                | zero => intro t h; have e : t = [] := by simpa [tuplesN] using h
                          rw [e]; rfl
                | succ j ih =>
                  intro t h
                  obtain ⟨t', h1, h2⟩ := List.mem_flatMap.mp (show t ∈ (tuplesN rs j).flatMap fun t => rs.map fun r => t ++ [r] from h)
                  obtain ⟨r, _, rfl⟩ := List.mem_map.mp h2
                  simp [ih t' h1]
              rw [key _ t ht]
              omega
            simp only [ev_bind, ev_nox, ev_seq, ev_set, ev_setOwn, ev_share, ev_drop, ev_ret, ev_retOwn, ev_skip, ev_brk, ev_cnt, ev_ifS, ev_frzS, ev_append, ev_setIx, ev_for, ev_lc, ev_seqOf, ev_range, ev_var, ev_c, ev_op, ev_un, ev_args, ev_nil, ev_cons, ev_frz, ev_b, ev_and, ev_or, ev_not, ev_andV, ev_orV, ev_notV, ev_if, ev_chain, ev_isi, ev_ixOwn, ev_lenOwn, ev_call, ev_callK, ev_sl, ev_part, ev_true, ev_nm, ev_toB, frz, frzAt, toSeq_tup, toSeq_lst, toSeq_cl, toRet, mWipe, kbG, Mir.gTup, Mir.gLst, List.getElem?_cons_zero, List.getElem?_cons_succ, List.set_cons_zero, List.set_cons_succ, List.length_cons, List.length_nil, List.append_nil, List.nil_append, List.cons_append, Nat.reduceAdd, Nat.reduceLeDiff, Nat.reduceEqDiff, Nat.zero_add, reduceIte, Bool.false_eq_true, Bool.not_true, Bool.not_false, and_self, sizeM_eq, addT t r hl])
      rw [List.length_append, List.length_singleton]
      refine ⟨[.val v, .val (.int m), .val (.lst ((tuplesN rs (pre.length + 1)).map tupV)), .val (.int k), s4, s5], S', .inl ?_, rfl, _, _, _, rfl⟩
      have fl : ((tuplesN rs pre.length).flatMap fun p => rs.map fun q => tupV (p ++ [q])) = (tuplesN rs (pre.length + 1)).map tupV := by
        show _ = ((tuplesN rs pre.length).flatMap fun t => rs.map fun r => t ++ [r]).map tupV
        rw [List.map_flatMap]
        simp only [List.map_map, Function.comp_def]
      rw [fl] at lc
      simp only [ev_bind, ev_nox, ev_seq, ev_set, ev_setOwn, ev_share, ev_drop, ev_ret, ev_retOwn, ev_skip, ev_brk, ev_cnt, ev_ifS, ev_frzS, ev_append, ev_setIx, ev_for, ev_lc, ev_seqOf, ev_range, ev_var, ev_c, ev_op, ev_un, ev_args, ev_nil, ev_cons, ev_frz, ev_b, ev_and, ev_or, ev_not, ev_andV, ev_orV, ev_notV, ev_if, ev_chain, ev_isi, ev_ixOwn, ev_lenOwn, ev_call, ev_callK, ev_sl, ev_part, ev_true, ev_nm, ev_toB, frz, frzAt, toSeq_tup, toSeq_lst, toSeq_cl, toRet, mWipe, kbG, Mir.gTup, Mir.gLst, List.getElem?_cons_zero, List.getElem?_cons_succ, List.set_cons_zero, List.set_cons_succ, List.length_cons, List.length_nil, List.append_nil, List.nil_append, List.cons_append, Nat.reduceAdd, Nat.reduceLeDiff, Nat.reduceEqDiff, Nat.zero_add, reduceIte, Bool.false_eq_true, Bool.not_true, Bool.not_false, and_self, sizeM_eq, ev_lc2, List.length_map, lc]) [.val v, .val (.int m), .val (.lst [.tup []]), .none, .none, .none] S ⟨rfl, _, _, _, rfl⟩
  have e : mForGo (gNm 3) _ (rng m) _ S' = _ := e
  rw [List.length_range] at e
  show (Bq_tuples_of [.val v, .val (.int m), .none, .none, .none, .none] S').bind toRet = _
  unfold Bq_tuples_of
  simp only [ev_bind, ev_nox, ev_seq, ev_set, ev_setOwn, ev_share, ev_drop, ev_ret, ev_retOwn, ev_skip, ev_brk, ev_cnt, ev_ifS, ev_frzS, ev_append, ev_setIx, ev_for, ev_lc, ev_seqOf, ev_range, ev_var, ev_c, ev_op, ev_un, ev_args, ev_nil, ev_cons, ev_frz, ev_b, ev_and, ev_or, ev_not, ev_andV, ev_orV, ev_notV, ev_if, ev_chain, ev_isi, ev_ixOwn, ev_lenOwn, ev_call, ev_callK, ev_sl, ev_part, ev_true, ev_nm, ev_toB, frz, frzAt, toSeq_tup, toSeq_lst, toSeq_cl, toRet, mWipe, kbG, Mir.gTup, Mir.gLst, List.getElem?_cons_zero, List.getElem?_cons_succ, List.set_cons_zero, List.set_cons_succ, List.length_cons, List.length_nil, List.append_nil, List.nil_append, List.cons_append, Nat.reduceAdd, Nat.reduceLeDiff, Nat.reduceEqDiff, Nat.zero_add, reduceIte, Bool.false_eq_true, Bool.not_true, Bool.not_false, and_self, sizeM_eq, rngN (show m ≤ 100000 by omega), e]
theorem tuplesN_tlen {rs : List (List Int)} : ∀ {j : Nat} {t : List (List Int)}, t ∈ tuplesN rs j → t.length = j
  | 0, t, h => by
    have e : t = [] := by simpa [tuplesN] using h
    rw [e]
    rfl
  | j + 1, t, h => by
    obtain ⟨t', h1, h2⟩ := List.mem_flatMap.mp (show t ∈ (tuplesN rs j).flatMap fun t => rs.map fun r => t ++ [r] from h)
    obtain ⟨r, _, rfl⟩ := List.mem_map.mp h2
    simp [tuplesN_tlen h1]
def B_long : Rho → Store → Res Out := mSet 4 (mOp gAddA (mVar 4) (mFrz (mLc (mSeqOf (mVar 0)) (gNm 6) mTrue (mOp gAddA (mVar 5) (mArgs Mir.gTup (mCons (mVar 6) mNil))) [6])))
def B_ltup : Rho → Store → Res Out := (mSeq (mSet 4 (mFrz (mArgs Mir.gLst mNil)))
    (mSeq (mFor (mSeqOf (mVar 2)) (gNm 5)
    B_long)
    (mSet 2 (mVar 4))))
theorem ltuples_ok {rs : List (List Int)} {v : PV} (hv : RowsV rs v) (h0 : rs ≠ []) {m : Nat} (hz : rs.length ^ m ≤ 90000) (hm : m ≤ 100) (S : Store) : Mq__law_tuples [v, .int m] S = .ok (.lst ((tuplesN rs m).map tupV)) S := by
  have hp : 1 ≤ rs.length := Nat.pos_of_ne_zero fun q => h0 (List.eq_nil_of_length_eq_zero q)
  obtain ⟨ρ', S', e, rfl, s3, s4, s5, s6, rfl⟩ := for_map (g := gNm 3) (b := B_ltup) (fun k : Nat => PV.int k) (ps := List.range m)
    (fun pre ρ S' => S' = S ∧ ∃ s3 s4 s5 s6, ρ = [.val v, .val (.int m), .val (.lst ((tuplesN rs pre.length).map tupV)), s3, s4, s5, s6]) (by
      rintro pre k post ρ S' ex ⟨rfl, s3, s4, s5, s6, rfl⟩
      have hk : pre.length + 1 ≤ m := by
        have := congrArg List.length ex
        rw [List.length_range, List.length_append, List.length_cons] at this
        omega
      have big : (tuplesN rs (pre.length + 1)).length ≤ 100000 := by
        have h1 := pow_le hz hk hp
        rw [tuplesN_len, Nat.pow_succ, Nat.mul_comm]
        exact h1
      have e1 : ∀ l : List (List (List Int)), (l.flatMap fun t => rs.map fun r => t ++ [r]).length = l.length * rs.length := fun l => by
        induction l with
        | nil => simp
        | cons x l ih => rw [List.flatMap_cons, List.length_append, ih, List.length_map, List.length_cons, Nat.add_mul]; omega
      obtain ⟨ρ2, S2, e2, rfl, u5, rfl⟩ := for_map (g := gNm 5) (b := B_long) tupV (ps := tuplesN rs pre.length)
        (fun done ρ S2 => S2 = S' ∧ ∃ s5, ρ = [.val v, .val (.int m), .val (.lst ((tuplesN rs pre.length).map tupV)), .val (.int k), .val (.lst ((done.flatMap fun t => rs.map fun r => t ++ [r]).map tupV)), s5, s6]) (by
          rintro done t more ρ S2 ex2 ⟨rfl, s5, rfl⟩
          have ht : t ∈ tuplesN rs pre.length := by rw [ex2]; simp
          have tl : t.length < 1000 := by rw [tuplesN_tlen ht]; omega
          have lc := lc_mapL (g := gNm 6) (t := mTrue) (a := mOp gAddA (mVar 5) (mArgs Mir.gTup (mCons (mVar 6) mNil))) (ρ := [.val v, .val (.int m), .val (.lst ((tuplesN rs pre.length).map tupV)), .val (.int k), .val (.lst ((done.flatMap fun t => rs.map fun r => t ++ [r]).map tupV)), .val (tupV t), .none]) (S := S2) rowP (fun r => tupV (t ++ [r])) (ps := rs) (fun r hr => by
            refine ⟨_, rfl, rfl, ?_⟩
            simp only [ev_bind, ev_nox, ev_seq, ev_set, ev_setOwn, ev_share, ev_drop, ev_ret, ev_retOwn, ev_skip, ev_brk, ev_cnt, ev_ifS, ev_frzS, ev_append, ev_setIx, ev_for, ev_lc, ev_seqOf, ev_range, ev_var, ev_c, ev_op, ev_un, ev_args, ev_nil, ev_cons, ev_frz, ev_b, ev_and, ev_or, ev_not, ev_andV, ev_orV, ev_notV, ev_if, ev_chain, ev_isi, ev_ixOwn, ev_lenOwn, ev_call, ev_callK, ev_sl, ev_part, ev_true, ev_nm, ev_toB, frz, frzAt, toSeq_tup, toSeq_lst, toSeq_cl, toRet, mWipe, kbG, Mir.gTup, Mir.gLst, List.getElem?_cons_zero, List.getElem?_cons_succ, List.set_cons_zero, List.set_cons_succ, List.length_cons, List.length_nil, List.append_nil, List.nil_append, List.cons_append, Nat.reduceAdd, Nat.reduceLeDiff, Nat.reduceEqDiff, Nat.zero_add, reduceIte, Bool.false_eq_true, Bool.not_true, Bool.not_false, and_self, sizeM_eq, addT t r tl])
          have z1 : rs.length ≤ 100000 := by
            have h1 := pow_le hz hk hp
            have h2 : 1 ≤ rs.length ^ pre.length := Nat.pow_pos hp
            have h3 : rs.length * 1 ≤ rs.length * rs.length ^ pre.length := Nat.mul_le_mul_left _ h2
            omega
          have z2 : (done.flatMap fun t => rs.map fun r => t ++ [r]).length + rs.length ≤ 100000 := by
            have h1 : (tuplesN rs pre.length).length = done.length + (more.length + 1) := by rw [ex2, List.length_append, List.length_cons]
            have h2 : (tuplesN rs (pre.length + 1)).length = (tuplesN rs pre.length).length * rs.length := e1 _
            rw [e1]
            rw [h2, h1, Nat.add_mul] at big
            have h3 : 1 * rs.length ≤ (more.length + 1) * rs.length := Nat.mul_le_mul_right _ (by omega)
            omega
          refine ⟨[.val v, .val (.int m), .val (.lst ((tuplesN rs pre.length).map tupV)), .val (.int k), .val (.lst (((done ++ [t]).flatMap fun t => rs.map fun r => t ++ [r]).map tupV)), .val (tupV t), s6], S2, .inl ?_, rfl, _, rfl⟩
          have fl : ((done ++ [t]).flatMap fun t => rs.map fun r => t ++ [r]).map tupV = (done.flatMap fun t => rs.map fun r => t ++ [r]).map tupV ++ rs.map fun r => tupV (t ++ [r]) := by
            rw [List.flatMap_append, List.map_append]
            simp only [List.flatMap_cons, List.flatMap_nil, List.append_nil, List.map_map, Function.comp_def]
          rw [fl]
          unfold B_long
          simp only [ev_bind, ev_nox, ev_seq, ev_set, ev_setOwn, ev_share, ev_drop, ev_ret, ev_retOwn, ev_skip, ev_brk, ev_cnt, ev_ifS, ev_frzS, ev_append, ev_setIx, ev_for, ev_lc, ev_seqOf, ev_range, ev_var, ev_c, ev_op, ev_un, ev_args, ev_nil, ev_cons, ev_frz, ev_b, ev_and, ev_or, ev_not, ev_andV, ev_orV, ev_notV, ev_if, ev_chain, ev_isi, ev_ixOwn, ev_lenOwn, ev_call, ev_callK, ev_sl, ev_part, ev_true, ev_nm, ev_toB, frz, frzAt, toSeq_tup, toSeq_lst, toSeq_cl, toRet, mWipe, kbG, Mir.gTup, Mir.gLst, List.getElem?_cons_zero, List.getElem?_cons_succ, List.set_cons_zero, List.set_cons_succ, List.length_cons, List.length_nil, List.append_nil, List.nil_append, List.cons_append, Nat.reduceAdd, Nat.reduceLeDiff, Nat.reduceEqDiff, Nat.zero_add, reduceIte, Bool.false_eq_true, Bool.not_true, Bool.not_false, and_self, sizeM_eq, hv.seq, List.length_map, z1, lc, gAddA, gAdd, z2]) [.val v, .val (.int m), .val (.lst ((tuplesN rs pre.length).map tupV)), .val (.int k), .val (.lst []), s5, s6] S' ⟨rfl, _, rfl⟩
      rw [List.length_append, List.length_singleton]
      refine ⟨[.val v, .val (.int m), .val (.lst ((tuplesN rs (pre.length + 1)).map tupV)), .val (.int k), .val (.lst ((tuplesN rs (pre.length + 1)).map tupV)), u5, s6], S2, .inl ?_, rfl, _, _, _, _, rfl⟩
      have e2 : mForGo (gNm 5) B_long ((tuplesN rs pre.length).map tupV) [.val v, .val (.int m), .val (.lst ((tuplesN rs pre.length).map tupV)), .val (.int k), .val (.lst []), s5, s6] S2 = .ok (.nx [.val v, .val (.int m), .val (.lst ((tuplesN rs pre.length).map tupV)), .val (.int k), .val (.lst ((tuplesN rs (pre.length + 1)).map tupV)), u5, s6]) S2 := e2
      unfold B_ltup
      simp only [ev_bind, ev_nox, ev_seq, ev_set, ev_setOwn, ev_share, ev_drop, ev_ret, ev_retOwn, ev_skip, ev_brk, ev_cnt, ev_ifS, ev_frzS, ev_append, ev_setIx, ev_for, ev_lc, ev_seqOf, ev_range, ev_var, ev_c, ev_op, ev_un, ev_args, ev_nil, ev_cons, ev_frz, ev_b, ev_and, ev_or, ev_not, ev_andV, ev_orV, ev_notV, ev_if, ev_chain, ev_isi, ev_ixOwn, ev_lenOwn, ev_call, ev_callK, ev_sl, ev_part, ev_true, ev_nm, ev_toB, frz, frzAt, toSeq_tup, toSeq_lst, toSeq_cl, toRet, mWipe, kbG, Mir.gTup, Mir.gLst, List.getElem?_cons_zero, List.getElem?_cons_succ, List.set_cons_zero, List.set_cons_succ, List.length_cons, List.length_nil, List.append_nil, List.nil_append, List.cons_append, Nat.reduceAdd, Nat.reduceLeDiff, Nat.reduceEqDiff, Nat.zero_add, reduceIte, Bool.false_eq_true, Bool.not_true, Bool.not_false, and_self, sizeM_eq, e2]) [.val v, .val (.int m), .val (.lst [.tup []]), .none, .none, .none, .none] S ⟨rfl, _, _, _, _, rfl⟩
  have e : mForGo (gNm 3) B_ltup (rng m) _ S' = _ := e
  rw [List.length_range] at e
  show (Bq__law_tuples [.val v, .val (.int m), .none, .none, .none, .none, .none] S').bind toRet = _
  unfold B_ltup B_long at e
  unfold Bq__law_tuples
  simp only [ev_bind, ev_nox, ev_seq, ev_set, ev_setOwn, ev_share, ev_drop, ev_ret, ev_retOwn, ev_skip, ev_brk, ev_cnt, ev_ifS, ev_frzS, ev_append, ev_setIx, ev_for, ev_lc, ev_seqOf, ev_range, ev_var, ev_c, ev_op, ev_un, ev_args, ev_nil, ev_cons, ev_frz, ev_b, ev_and, ev_or, ev_not, ev_andV, ev_orV, ev_notV, ev_if, ev_chain, ev_isi, ev_ixOwn, ev_lenOwn, ev_call, ev_callK, ev_sl, ev_part, ev_true, ev_nm, ev_toB, frz, frzAt, toSeq_tup, toSeq_lst, toSeq_cl, toRet, mWipe, kbG, Mir.gTup, Mir.gLst, List.getElem?_cons_zero, List.getElem?_cons_succ, List.set_cons_zero, List.set_cons_succ, List.length_cons, List.length_nil, List.append_nil, List.nil_append, List.cons_append, Nat.reduceAdd, Nat.reduceLeDiff, Nat.reduceEqDiff, Nat.zero_add, reduceIte, Bool.false_eq_true, Bool.not_true, Bool.not_false, and_self, sizeM_eq, rngN (show m ≤ 100000 by omega), e]
end Mir
set_option maxHeartbeats 4000000
/-! MirP2: first breaks. -/
namespace Mir
open PySem L2
theorem toDs_rowsP : ∀ ps : List (List Int), toDs (ps.map rowP) = some (ps.map fun p => PyData.tuple (p.map PyData.int))
  | [] => rfl
  | p :: ps => by
    have ih := toDs_rowsP ps
    simp only [List.map_cons, toDs, toD_row, ih]
theorem lay_rowsP : ∀ ps : List (List Int), PyData.canLayAll0 (ps.map fun p => PyData.tuple (p.map PyData.int)) = true
  | [] => rfl
  | p :: ps => by simp only [List.map_cons, PyData.canLayAll0, PyData.canLay0, lay_ints, lay_rowsP ps, Bool.and_self]
theorem depth_rowsP : ∀ ps : List (List Int), PyData.depthAll (ps.map fun p => PyData.tuple (p.map PyData.int)) ≤ 1
  | [] => by simp [PyData.depthAll]
  | p :: ps => by
    have := depth_rowsP ps
    simp only [List.map_cons, PyData.depthAll, PyData.depth, depth_ints]
    omega
theorem shaped_rowsT (ps : List (List Int)) : SeqAt.shaped (.tuple (ps.map fun p => PyData.tuple (p.map PyData.int))) = true := by
  refine Bool.and_eq_true_iff.mpr ⟨lay_rowsP ps, decide_eq_true ?_⟩
  have := depth_rowsP ps
  simp only [PyData.depth]
  omega
theorem shaped_rowsL (ps : List (List Int)) : SeqAt.shaped (.list (ps.map fun p => PyData.tuple (p.map PyData.int))) = true := by
  refine Bool.and_eq_true_iff.mpr ⟨lay_rowsP ps, decide_eq_true ?_⟩
  have := depth_rowsP ps
  simp only [PyData.depth]
  omega
theorem any_rows (r : List Int) : ∀ ps : List (List Int), ((ps.map fun p => PyData.tuple (p.map PyData.int)).any fun z => PyData.eqv z (.tuple (r.map PyData.int))) = decide (r ∈ ps)
  | [] => rfl
  | p :: ps => by
    rw [List.map_cons, List.any_cons, any_rows r ps]
    show (PyData.eqvAll (p.map PyData.int) (r.map PyData.int) || _) = _
    rw [eqvAll_ints, Bool.eq_iff_iff]
    simp only [Bool.or_eq_true, decide_eq_true_eq, List.mem_cons]
    exact ⟨fun h => h.elim (fun e => .inl e.symm) .inr, fun h => h.elim (fun e => .inl e.symm) .inr⟩
theorem in_rows {v : PV} {rs : List (List Int)} (hv : RowsV rs v) (neg : Bool) (r : List Int) (S : Store) : gInD neg (rowP r) v S = .ok (.bl (if neg then !decide (r ∈ rs) else decide (r ∈ rs))) S := by
  unfold gInD
  cases hv
  · simp only [toD_row, toD, toDs_rowsP, Option.map_some, shaped_row, shaped_rowsL, Bool.and_self, if_true, any_rows]
  · simp only [toD_row, toD, toDs_rowsP, Option.map_some, shaped_row, shaped_rowsT, Bool.and_self, if_true, any_rows]
section
variable {g : PV → Rho → Store → Res Rho} {b : Rho → Store → Res Out}
/-- a loop that returns at the first item of a kind -/
theorem for_find {α : Type} {S : Store} (F : α → PV) (p : α → Bool) (V : α → PV) (Pv : Rho → Prop) : ∀ {ps : List α}, (∀ x ∈ ps, ∀ ρ, Pv ρ → (p x = true → (g (F x) ρ S).bind (fun ρ1 S1 => b ρ1 S1) = .ok (.rt (V x)) S) ∧ (p x = false → ∃ ρ', (g (F x) ρ S).bind (fun ρ1 S1 => b ρ1 S1) = .ok (.nx ρ') S ∧ Pv ρ')) →
    ∀ ρ, Pv ρ → ∃ o, mForGo g b (ps.map F) ρ S = .ok o S ∧ (match ps.find? p with | some x => o = .rt (V x) | none => ∃ ρ', o = .nx ρ' ∧ Pv ρ')
  | [], _, ρ, hp => ⟨.nx ρ, rfl, ρ, rfl, hp⟩
  | x :: ps, h, ρ, hp => by
    obtain ⟨h1, h2⟩ := h x List.mem_cons_self ρ hp
    rw [List.map_cons, List.find?_cons]
    cases hx : p x with
    | true =>
      have e := h1 hx
      refine ⟨.rt (V x), ?_, rfl⟩
      show ((g (F x) ρ S).bind fun ρ1 S1 => (b ρ1 S1).bind _) = _
      cases eg : g (F x) ρ S with
      | bad => rw [eg] at e; cases e
      | exc c fs S1 => rw [eg] at e; cases e
      | ok ρ1 S1 =>
        rw [eg] at e
        show (b ρ1 S1).bind _ = _
        rw [show b ρ1 S1 = .ok (.rt (V x)) S from e]
        rfl
    | false =>
      obtain ⟨ρ', e, hp'⟩ := h2 hx
      obtain ⟨o, e2, ho⟩ := for_find F p V Pv (ps := ps) (fun y hy => h y (List.mem_cons_of_mem _ hy)) ρ' hp'
      refine ⟨o, ?_, ho⟩
      show ((g (F x) ρ S).bind fun ρ1 S1 => (b ρ1 S1).bind _) = _
      cases eg : g (F x) ρ S with
      | bad => rw [eg] at e; cases e
      | exc c fs S1 => rw [eg] at e; cases e
      | ok ρ1 S1 =>
        rw [eg] at e
        show (b ρ1 S1).bind _ = _
        rw [show b ρ1 S1 = .ok (.nx ρ') S from e]
        exact e2
end
/-- the first tuple of rows that is not kept -/
def brk (rs : List (List Int)) (tb : List Int) (n m : Nat) : Option (List (List Int)) := (tuplesN rs m).find? fun t => !decide (madeN tb t n ∈ rs)
def brkV : Option (List (List Int)) → PV
  | none => .non
  | some t => tupV t
/-- what a relation is made of -/
structure RlOk (n : Nat) (rs : List (List Int)) : Prop where
  n1 : 1 ≤ n
  n4 : n ≤ 4
  rows : RowsN n rs
  ne : rs ≠ []
  asc : Asc rs
  few : rs.length ≤ 16
theorem sz_ix {m : Nat} (h1 : 1 ≤ m) (h4 : m ≤ 4) (S : Store) : gIndexT [.int 1, .int 2, .int 4, .int 8, .int 16] [.int ((2 ^ m : Nat) : Int)] S = .ok (.int m) S := by
  match m, h1, h4 with
  | 1, _, _ => kernel_rfl
  | 2, _, _ => kernel_rfl
  | 3, _, _ => kernel_rfl
  | 4, _, _ => kernel_rfl
theorem ev_indexT {a : Rho → Store → Res PV} {as : Rho → Store → Res (List PV)} {ρ : Rho} {S : Store} : mIndexT a as ρ S = (a ρ S).bind fun x S1 => match x with
  | .tup xs => (as ρ S1).bind fun ys S2 => gIndexT xs ys S2
  | _ => .bad := nrfl rfl
theorem len_row {m : Nat} {tb : List Int} (hT : TabM m tb) (S : Store) : gLen [rowP tb] S = .ok (.int ((2 ^ m : Nat) : Int)) S := by
  unfold rowP
  simp only [gLen, List.length_map, hT.1]
theorem fld_size {n : Nat} {rs : List (List Int)} : List.lookup ("size" : Str) ((["size", "rows"] : List Str).zip [PV.int n, .tup (rs.map rowP)]) = some (.int n) := rfl
theorem fld_rows {n : Nat} {rs : List (List Int)} : List.lookup ("rows" : Str) ((["size", "rows"] : List Str).zip [PV.int n, .tup (rs.map rowP)]) = some (.tup (rs.map rowP)) := rfl
theorem breakin_ok {n m : Nat} {rs : List (List Int)} (hR : RlOk n rs) (h1 : 1 ≤ m) (h4 : m ≤ 4) (hz : rs.length ^ m ≤ 90000) {tb : List Int} (hT : TabM m tb) (S : Store) : Mq_break_in [relV n rs, rowP tb] S = .ok (brkV (brk rs tb n m)) S := by
  have tu := fun S => tuples_ok (RowsV.tup (rs := rs)) hR.ne hz (by omega) S
  have n4 := hR.n4
  obtain ⟨o, e, ho⟩ := for_find (g := gNm 2) (b := mIfS (mB (mOp (gInD true) (mCall 2 Mq_made_row [] (mCons (mVar 1) (mCons (mVar 2) mNil))) (mFldI "Relation" "rows" (mVar 0)))) (mRet (mVar 2)) mSkip) (S := S) tupV (fun t => !decide (madeN tb t n ∈ rs)) tupV (fun ρ => ∃ s2, ρ = [.val (relV n rs), .val (rowP tb), s2]) (ps := tuplesN rs m) (by
    rintro t ht ρ ⟨s2, rfl⟩
    have T := (tuplesN_mem hR.rows ht).1
    have mk := fun S => made_ok (by omega) h1 (by omega) hT T S
    have ir := fun S => in_rows (RowsV.tup (rs := rs)) true (madeN tb t n) S
    refine ⟨fun q => ?_, fun q => ⟨[.val (relV n rs), .val (rowP tb), .val (tupV t)], ?_, _, rfl⟩⟩
    · unfold relV
      simp only [ev_bind, ev_nox, ev_seq, ev_set, ev_setOwn, ev_share, ev_drop, ev_ret, ev_retOwn, ev_skip, ev_brk, ev_cnt, ev_ifS, ev_frzS, ev_append, ev_setIx, ev_for, ev_lc, ev_seqOf, ev_range, ev_var, ev_c, ev_op, ev_un, ev_args, ev_nil, ev_cons, ev_frz, ev_b, ev_and, ev_or, ev_not, ev_andV, ev_orV, ev_notV, ev_if, ev_chain, ev_isi, ev_ixOwn, ev_lenOwn, ev_call, ev_callK, ev_sl, ev_part, ev_true, ev_nm, ev_toB, frz, frzAt, toSeq_tup, toSeq_lst, toSeq_cl, toRet, mWipe, kbG, Mir.gTup, Mir.gLst, List.getElem?_cons_zero, List.getElem?_cons_succ, List.set_cons_zero, List.set_cons_succ, List.length_cons, List.length_nil, List.append_nil, List.nil_append, List.cons_append, Nat.reduceAdd, Nat.reduceLeDiff, Nat.reduceEqDiff, Nat.zero_add, reduceIte, Bool.false_eq_true, Bool.not_true, Bool.not_false, and_self, sizeM_eq, ev_make, ev_fldI, ev_isiC, ev_sortD, ev_key, ev_join, mk, fld_rows, ir, q]
    · unfold relV
      simp only [ev_bind, ev_nox, ev_seq, ev_set, ev_setOwn, ev_share, ev_drop, ev_ret, ev_retOwn, ev_skip, ev_brk, ev_cnt, ev_ifS, ev_frzS, ev_append, ev_setIx, ev_for, ev_lc, ev_seqOf, ev_range, ev_var, ev_c, ev_op, ev_un, ev_args, ev_nil, ev_cons, ev_frz, ev_b, ev_and, ev_or, ev_not, ev_andV, ev_orV, ev_notV, ev_if, ev_chain, ev_isi, ev_ixOwn, ev_lenOwn, ev_call, ev_callK, ev_sl, ev_part, ev_true, ev_nm, ev_toB, frz, frzAt, toSeq_tup, toSeq_lst, toSeq_cl, toRet, mWipe, kbG, Mir.gTup, Mir.gLst, List.getElem?_cons_zero, List.getElem?_cons_succ, List.set_cons_zero, List.set_cons_succ, List.length_cons, List.length_nil, List.append_nil, List.nil_append, List.cons_append, Nat.reduceAdd, Nat.reduceLeDiff, Nat.reduceEqDiff, Nat.zero_add, reduceIte, Bool.false_eq_true, Bool.not_true, Bool.not_false, and_self, sizeM_eq, ev_make, ev_fldI, ev_isiC, ev_sortD, ev_key, ev_join, mk, fld_rows, ir, q]) [.val (relV n rs), .val (rowP tb), .none] ⟨_, rfl⟩
  show (Bq_break_in [.val (relV n rs), .val (rowP tb), .none] S).bind toRet = _
  unfold Bq_break_in
  unfold relV at e ⊢
  simp only [ev_bind, ev_nox, ev_seq, ev_set, ev_setOwn, ev_share, ev_drop, ev_ret, ev_retOwn, ev_skip, ev_brk, ev_cnt, ev_ifS, ev_frzS, ev_append, ev_setIx, ev_for, ev_lc, ev_seqOf, ev_range, ev_var, ev_c, ev_op, ev_un, ev_args, ev_nil, ev_cons, ev_frz, ev_b, ev_and, ev_or, ev_not, ev_andV, ev_orV, ev_notV, ev_if, ev_chain, ev_isi, ev_ixOwn, ev_lenOwn, ev_call, ev_callK, ev_sl, ev_part, ev_true, ev_nm, ev_toB, frz, frzAt, toSeq_tup, toSeq_lst, toSeq_cl, toRet, mWipe, kbG, Mir.gTup, Mir.gLst, List.getElem?_cons_zero, List.getElem?_cons_succ, List.set_cons_zero, List.set_cons_succ, List.length_cons, List.length_nil, List.append_nil, List.nil_append, List.cons_append, Nat.reduceAdd, Nat.reduceLeDiff, Nat.reduceEqDiff, Nat.zero_add, reduceIte, Bool.false_eq_true, Bool.not_true, Bool.not_false, and_self, sizeM_eq, ev_make, ev_fldI, ev_isiC, ev_sortD, ev_key, ev_join, ev_indexT, fld_rows, len_row hT, sz_ix h1 h4, tu, e]
  unfold brk
  cases q : (tuplesN rs m).find? (fun t => !decide (madeN tb t n ∈ rs)) with
  | some t =>
    rw [q] at ho
    subst ho
    rfl
  | none =>
    rw [q] at ho
    obtain ⟨ρ', rfl, _⟩ := ho
    rfl
/-- a relation as the law has it -/
def plainV (n : Nat) (rs : List (List Int)) : PV := .tup [.int n, .tup (rs.map rowP)]
theorem lbreak_ok {n m : Nat} {rs : List (List Int)} (hR : RlOk n rs) (h1 : 1 ≤ m) (h4 : m ≤ 4) (hz : rs.length ^ m ≤ 90000) {tb : List Int} (hT : TabM m tb) (S : Store) : Mq__law_break [plainV n rs, rowP tb, .int m] S = .ok (brkV (brk rs tb n m)) S := by
  have tu := fun S => ltuples_ok (RowsV.tup (rs := rs)) hR.ne hz (by omega) S
  have n4 := hR.n4
  have at1 : ∀ S, gIx (plainV n rs) (.int 1) S = .ok (.tup (rs.map rowP)) S := fun S => rfl
  obtain ⟨o, e, ho⟩ := for_find (g := gNm 4) (b := mIfS (mB (mOp (gInD true) (mCall 2 Mq__law_made [] (mCons (mVar 1) (mCons (mVar 4) mNil))) (mVar 3))) (mRet (mVar 4)) mSkip) (S := S) tupV (fun t => !decide (madeN tb t n ∈ rs)) tupV (fun ρ => ∃ s2, ρ = [.val (plainV n rs), .val (rowP tb), .val (.int m), .val (.tup (rs.map rowP)), s2]) (ps := tuplesN rs m) (by
    rintro t ht ρ ⟨s2, rfl⟩
    have T := (tuplesN_mem hR.rows ht).1
    have mk := fun S => lmade_ok (by omega) h1 (by omega) hT T S
    have ir := fun S => in_rows (RowsV.tup (rs := rs)) true (madeN tb t n) S
    refine ⟨fun q => ?_, fun q => ⟨[.val (plainV n rs), .val (rowP tb), .val (.int m), .val (.tup (rs.map rowP)), .val (tupV t)], ?_, _, rfl⟩⟩
    · simp only [ev_bind, ev_nox, ev_seq, ev_set, ev_setOwn, ev_share, ev_drop, ev_ret, ev_retOwn, ev_skip, ev_brk, ev_cnt, ev_ifS, ev_frzS, ev_append, ev_setIx, ev_for, ev_lc, ev_seqOf, ev_range, ev_var, ev_c, ev_op, ev_un, ev_args, ev_nil, ev_cons, ev_frz, ev_b, ev_and, ev_or, ev_not, ev_andV, ev_orV, ev_notV, ev_if, ev_chain, ev_isi, ev_ixOwn, ev_lenOwn, ev_call, ev_callK, ev_sl, ev_part, ev_true, ev_nm, ev_toB, frz, frzAt, toSeq_tup, toSeq_lst, toSeq_cl, toRet, mWipe, kbG, Mir.gTup, Mir.gLst, List.getElem?_cons_zero, List.getElem?_cons_succ, List.set_cons_zero, List.set_cons_succ, List.length_cons, List.length_nil, List.append_nil, List.nil_append, List.cons_append, Nat.reduceAdd, Nat.reduceLeDiff, Nat.reduceEqDiff, Nat.zero_add, reduceIte, Bool.false_eq_true, Bool.not_true, Bool.not_false, and_self, sizeM_eq, ev_make, ev_fldI, ev_isiC, ev_sortD, ev_key, ev_join, mk, ir, q]
    · simp only [ev_bind, ev_nox, ev_seq, ev_set, ev_setOwn, ev_share, ev_drop, ev_ret, ev_retOwn, ev_skip, ev_brk, ev_cnt, ev_ifS, ev_frzS, ev_append, ev_setIx, ev_for, ev_lc, ev_seqOf, ev_range, ev_var, ev_c, ev_op, ev_un, ev_args, ev_nil, ev_cons, ev_frz, ev_b, ev_and, ev_or, ev_not, ev_andV, ev_orV, ev_notV, ev_if, ev_chain, ev_isi, ev_ixOwn, ev_lenOwn, ev_call, ev_callK, ev_sl, ev_part, ev_true, ev_nm, ev_toB, frz, frzAt, toSeq_tup, toSeq_lst, toSeq_cl, toRet, mWipe, kbG, Mir.gTup, Mir.gLst, List.getElem?_cons_zero, List.getElem?_cons_succ, List.set_cons_zero, List.set_cons_succ, List.length_cons, List.length_nil, List.append_nil, List.nil_append, List.cons_append, Nat.reduceAdd, Nat.reduceLeDiff, Nat.reduceEqDiff, Nat.zero_add, reduceIte, Bool.false_eq_true, Bool.not_true, Bool.not_false, and_self, sizeM_eq, ev_make, ev_fldI, ev_isiC, ev_sortD, ev_key, ev_join, mk, ir, q]) [.val (plainV n rs), .val (rowP tb), .val (.int m), .val (.tup (rs.map rowP)), .none] ⟨_, rfl⟩
  show (Bq__law_break [.val (plainV n rs), .val (rowP tb), .val (.int m), .none, .none] S).bind toRet = _
  unfold Bq__law_break
  simp only [ev_bind, ev_nox, ev_seq, ev_set, ev_setOwn, ev_share, ev_drop, ev_ret, ev_retOwn, ev_skip, ev_brk, ev_cnt, ev_ifS, ev_frzS, ev_append, ev_setIx, ev_for, ev_lc, ev_seqOf, ev_range, ev_var, ev_c, ev_op, ev_un, ev_args, ev_nil, ev_cons, ev_frz, ev_b, ev_and, ev_or, ev_not, ev_andV, ev_orV, ev_notV, ev_if, ev_chain, ev_isi, ev_ixOwn, ev_lenOwn, ev_call, ev_callK, ev_sl, ev_part, ev_true, ev_nm, ev_toB, frz, frzAt, toSeq_tup, toSeq_lst, toSeq_cl, toRet, mWipe, kbG, Mir.gTup, Mir.gLst, List.getElem?_cons_zero, List.getElem?_cons_succ, List.set_cons_zero, List.set_cons_succ, List.length_cons, List.length_nil, List.append_nil, List.nil_append, List.cons_append, Nat.reduceAdd, Nat.reduceLeDiff, Nat.reduceEqDiff, Nat.zero_add, reduceIte, Bool.false_eq_true, Bool.not_true, Bool.not_false, and_self, sizeM_eq, at1, tu, e]
  unfold brk
  cases q : (tuplesN rs m).find? (fun t => !decide (madeN tb t n ∈ rs)) with
  | some t =>
    rw [q] at ho
    subst ho
    rfl
  | none =>
    rw [q] at ho
    obtain ⟨ρ', rfl, _⟩ := ho
    rfl
/-! ### tables -/
theorem isbit_ok {b : Int} (h : b = 0 ∨ b = 1) (S : Store) : Mq_is_bit [.int b] S = .ok (.bl true) S := by
  show (Bq_is_bit [.val (.int b)] S).bind toRet = _
  unfold Bq_is_bit
  have c1 : decide ((0 : Int) ≤ b) = true := decide_eq_true (by omega)
  have c2 : decide (b ≤ (1 : Int)) = true := decide_eq_true (by omega)
  simp only [ev_bind, ev_nox, ev_seq, ev_set, ev_setOwn, ev_share, ev_drop, ev_ret, ev_retOwn, ev_skip, ev_brk, ev_cnt, ev_ifS, ev_frzS, ev_append, ev_setIx, ev_for, ev_lc, ev_seqOf, ev_range, ev_var, ev_c, ev_op, ev_un, ev_args, ev_nil, ev_cons, ev_frz, ev_b, ev_and, ev_or, ev_not, ev_andV, ev_orV, ev_notV, ev_if, ev_chain, ev_isi, ev_ixOwn, ev_lenOwn, ev_call, ev_callK, ev_sl, ev_part, ev_true, ev_nm, ev_toB, frz, frzAt, toSeq_tup, toSeq_lst, toSeq_cl, toRet, mWipe, kbG, Mir.gTup, Mir.gLst, List.getElem?_cons_zero, List.getElem?_cons_succ, List.set_cons_zero, List.set_cons_succ, List.length_cons, List.length_nil, List.append_nil, List.nil_append, List.cons_append, Nat.reduceAdd, Nat.reduceLeDiff, Nat.reduceEqDiff, Nat.zero_add, reduceIte, Bool.false_eq_true, Bool.not_true, Bool.not_false, and_self, sizeM_eq, isi_int (v := .int b) (show NoObj (.int b) from rfl), isi_bool (v := .int b) (show NoObj (.int b) from rfl), isIntP, isBoolP, gLe, c1, c2]
theorem istab_ok {m : Nat} (h1 : 1 ≤ m) (h4 : m ≤ 4) {tb : List Int} (hT : TabM m tb) {k : Nat} (k1 : 1 ≤ k) (k4 : k ≤ 4) (S : Store) : Mq_is_table [rowP tb, .int k] S = .ok (.bl (decide (k = m))) S := by
  have ix : ∀ S, gIx (.tup [.int 1, .int 2, .int 4, .int 8, .int 16]) (.int k) S = .ok (.int ((2 ^ k : Nat) : Int)) S := fun S => by
    match k, k1, k4 with
    | 1, _, _ => kernel_rfl
    | 2, _, _ => kernel_rfl
    | 3, _, _ => kernel_rfl
    | 4, _, _ => kernel_rfl
  have it : ∀ S, gIsi "tuple" (rowP tb) S = .ok (.bl true) S := fun S => isi_tuple (v := rowP tb) (show NoObj (rowP tb) from rfl) S
  have e2 : decide ((((2 ^ m : Nat) : Int)) = ((2 ^ k : Nat) : Int)) = decide (k = m) := by
    rw [Bool.eq_iff_iff]
    simp only [decide_eq_true_eq]
    constructor
    · intro h
      have h : 2 ^ m = 2 ^ k := by omega
      have key : ∀ m ∈ [1, 2, 3, 4], ∀ k ∈ [1, 2, 3, 4], (2 ^ m : Nat) = 2 ^ k → k = m := by decide
      exact key m (by simp only [List.mem_cons, List.not_mem_nil, or_false]; omega) k (by simp only [List.mem_cons, List.not_mem_nil, or_false]; omega) h
    · rintro rfl; rfl
  show (Bq_is_table [.val (rowP tb), .val (.int k), .none] S).bind toRet = _
  unfold Bq_is_table
  cases q : decide (k = m) with
  | false =>
    rw [q] at e2
    simp only [ev_bind, ev_nox, ev_seq, ev_set, ev_setOwn, ev_share, ev_drop, ev_ret, ev_retOwn, ev_skip, ev_brk, ev_cnt, ev_ifS, ev_frzS, ev_append, ev_setIx, ev_for, ev_lc, ev_seqOf, ev_range, ev_var, ev_c, ev_op, ev_un, ev_args, ev_nil, ev_cons, ev_frz, ev_b, ev_and, ev_or, ev_not, ev_andV, ev_orV, ev_notV, ev_if, ev_chain, ev_isi, ev_ixOwn, ev_lenOwn, ev_call, ev_callK, ev_sl, ev_part, ev_true, ev_nm, ev_toB, frz, frzAt, toSeq_tup, toSeq_lst, toSeq_cl, toRet, mWipe, kbG, Mir.gTup, Mir.gLst, List.getElem?_cons_zero, List.getElem?_cons_succ, List.set_cons_zero, List.set_cons_succ, List.length_cons, List.length_nil, List.append_nil, List.nil_append, List.cons_append, Nat.reduceAdd, Nat.reduceLeDiff, Nat.reduceEqDiff, Nat.zero_add, reduceIte, Bool.false_eq_true, Bool.not_true, Bool.not_false, and_self, sizeM_eq, it, len_row hT, ix, neD_int, e2]
  | true =>
    rw [q] at e2
    obtain ⟨ρ', S', e, rfl, s2, rfl⟩ := for_map (g := gNm 2) (b := mIfS (mNot (mB (mCall 1 Mq_is_bit [] (mCons (mVar 2) mNil)))) (mRet (mC (.bl false))) mSkip) PV.int (ps := tb) (fun pre ρ S' => S' = S ∧ ∃ s2, ρ = [.val (rowP tb), .val (.int k), s2]) (by
      rintro pre b post ρ S' ex ⟨rfl, s2, rfl⟩
      have hb := hT.2 b (by rw [ex]; simp)
      refine ⟨[.val (rowP tb), .val (.int k), .val (.int b)], S', .inl ?_, rfl, _, rfl⟩
      simp only [ev_bind, ev_nox, ev_seq, ev_set, ev_setOwn, ev_share, ev_drop, ev_ret, ev_retOwn, ev_skip, ev_brk, ev_cnt, ev_ifS, ev_frzS, ev_append, ev_setIx, ev_for, ev_lc, ev_seqOf, ev_range, ev_var, ev_c, ev_op, ev_un, ev_args, ev_nil, ev_cons, ev_frz, ev_b, ev_and, ev_or, ev_not, ev_andV, ev_orV, ev_notV, ev_if, ev_chain, ev_isi, ev_ixOwn, ev_lenOwn, ev_call, ev_callK, ev_sl, ev_part, ev_true, ev_nm, ev_toB, frz, frzAt, toSeq_tup, toSeq_lst, toSeq_cl, toRet, mWipe, kbG, Mir.gTup, Mir.gLst, List.getElem?_cons_zero, List.getElem?_cons_succ, List.set_cons_zero, List.set_cons_succ, List.length_cons, List.length_nil, List.append_nil, List.nil_append, List.cons_append, Nat.reduceAdd, Nat.reduceLeDiff, Nat.reduceEqDiff, Nat.zero_add, reduceIte, Bool.false_eq_true, Bool.not_true, Bool.not_false, and_self, sizeM_eq, isbit_ok hb]) [.val (rowP tb), .val (.int k), .none] S ⟨rfl, _, rfl⟩
    have sq : ∀ S, toSeq (rowP tb) S = .ok (tb.map PV.int) S := fun _ => rfl
    simp only [ev_bind, ev_nox, ev_seq, ev_set, ev_setOwn, ev_share, ev_drop, ev_ret, ev_retOwn, ev_skip, ev_brk, ev_cnt, ev_ifS, ev_frzS, ev_append, ev_setIx, ev_for, ev_lc, ev_seqOf, ev_range, ev_var, ev_c, ev_op, ev_un, ev_args, ev_nil, ev_cons, ev_frz, ev_b, ev_and, ev_or, ev_not, ev_andV, ev_orV, ev_notV, ev_if, ev_chain, ev_isi, ev_ixOwn, ev_lenOwn, ev_call, ev_callK, ev_sl, ev_part, ev_true, ev_nm, ev_toB, frz, frzAt, toSeq_tup, toSeq_lst, toSeq_cl, toRet, mWipe, kbG, Mir.gTup, Mir.gLst, List.getElem?_cons_zero, List.getElem?_cons_succ, List.set_cons_zero, List.set_cons_succ, List.length_cons, List.length_nil, List.append_nil, List.nil_append, List.cons_append, Nat.reduceAdd, Nat.reduceLeDiff, Nat.reduceEqDiff, Nat.zero_add, reduceIte, Bool.false_eq_true, Bool.not_true, Bool.not_false, and_self, sizeM_eq, it, len_row hT, ix, neD_int, e2, sq, e]
end Mir
set_option maxHeartbeats 4000000
/-! MirP3: books; the first break of a book. -/
namespace Mir
open PySem L2
abbrev Rl := Nat × List (List Int)
def relP (p : Rl) : PV := relV p.1 p.2
def plP (p : Rl) : PV := plainV p.1 p.2
def bookV (rels : List Rl) : PV := .ins "Book" ["relations", "plain"] [.tup (rels.map relP), .tup (rels.map plP)]
structure BkOk (rels : List Rl) : Prop where
  all : ∀ p ∈ rels, RlOk p.1 p.2
  ne : 1 ≤ rels.length
  six : rels.length ≤ 6
theorem rel_made {n : Nat} {rs : List (List Int)} (h : RlOk n rs) {v : PV} (hv : RowsV rs v) (S : Store) : M_rel [.int n, v] S = .ok [.int n, .tup (rs.map rowP)] S := by
  rw [rel_ok hv h.n1 h.n4 h.rows h.ne (by have := h.few; omega), asc_sort h.asc]
theorem arels_ok {rels : List Rl} (h : BkOk rels) (S : Store) : Mq_are_relations [.lst (rels.map relP)] S = .ok (.bl true) S := by
  obtain ⟨ρ', S', e, rfl, s1, rfl⟩ := for_map (g := gNm 1) (b := mIfS (mNot (mB (mIsiC "Relation" (mVar 1)))) (mRet (mC (.bl false))) mSkip) relP (ps := rels) (fun pre ρ S' => S' = S ∧ ∃ s1, ρ = [.val (.lst (rels.map relP)), s1]) (by
    rintro pre p post ρ S' ex ⟨rfl, s1, rfl⟩
    refine ⟨[.val (.lst (rels.map relP)), .val (relP p)], S', .inl ?_, rfl, _, rfl⟩
    simp only [ev_bind, ev_nox, ev_seq, ev_set, ev_setOwn, ev_share, ev_drop, ev_ret, ev_retOwn, ev_skip, ev_brk, ev_cnt, ev_ifS, ev_frzS, ev_append, ev_setIx, ev_for, ev_lc, ev_seqOf, ev_range, ev_var, ev_c, ev_op, ev_un, ev_args, ev_nil, ev_cons, ev_frz, ev_b, ev_and, ev_or, ev_not, ev_andV, ev_orV, ev_notV, ev_if, ev_chain, ev_isi, ev_ixOwn, ev_lenOwn, ev_call, ev_callK, ev_sl, ev_part, ev_true, ev_nm, ev_toB, frz, frzAt, toSeq_tup, toSeq_lst, toSeq_cl, toRet, mWipe, kbG, Mir.gTup, Mir.gLst, List.getElem?_cons_zero, List.getElem?_cons_succ, List.set_cons_zero, List.set_cons_succ, List.length_cons, List.length_nil, List.append_nil, List.nil_append, List.cons_append, Nat.reduceAdd, Nat.reduceLeDiff, Nat.reduceEqDiff, Nat.zero_add, reduceIte, Bool.false_eq_true, Bool.not_true, Bool.not_false, and_self, sizeM_eq, ev_make, ev_fldI, ev_isiC, ev_sortD, ev_key, ev_join]
    rfl) [.val (.lst (rels.map relP)), .none] S ⟨rfl, _, rfl⟩
  have it : ∀ S, gIsiT ["list", "tuple"] (.lst (rels.map relP)) S = .ok (.bl true) S := fun S => rfl
  have ei : ∀ {a : Rho → Store → Res PV} {Ts : List String} {ρ : Rho} {S : Store}, mIsiT Ts a ρ S = (a ρ S).bind fun x S1 => gIsiT Ts x S1 := rfl
  have c1 : decide ((1 : Int) ≤ rels.length) = true := decide_eq_true (by have := h.ne; omega)
  have c2 : decide ((rels.length : Int) ≤ 6) = true := decide_eq_true (by have := h.six; omega)
  show (Bq_are_relations [.val (.lst (rels.map relP)), .none] S').bind toRet = _
  unfold Bq_are_relations
  simp only [ev_bind, ev_nox, ev_seq, ev_set, ev_setOwn, ev_share, ev_drop, ev_ret, ev_retOwn, ev_skip, ev_brk, ev_cnt, ev_ifS, ev_frzS, ev_append, ev_setIx, ev_for, ev_lc, ev_seqOf, ev_range, ev_var, ev_c, ev_op, ev_un, ev_args, ev_nil, ev_cons, ev_frz, ev_b, ev_and, ev_or, ev_not, ev_andV, ev_orV, ev_notV, ev_if, ev_chain, ev_isi, ev_ixOwn, ev_lenOwn, ev_call, ev_callK, ev_sl, ev_part, ev_true, ev_nm, ev_toB, frz, frzAt, toSeq_tup, toSeq_lst, toSeq_cl, toRet, mWipe, kbG, Mir.gTup, Mir.gLst, List.getElem?_cons_zero, List.getElem?_cons_succ, List.set_cons_zero, List.set_cons_succ, List.length_cons, List.length_nil, List.append_nil, List.nil_append, List.cons_append, Nat.reduceAdd, Nat.reduceLeDiff, Nat.reduceEqDiff, Nat.zero_add, reduceIte, Bool.false_eq_true, Bool.not_true, Bool.not_false, and_self, sizeM_eq, ei, it, gLen, List.length_map, gLe, c1, c2, e]
theorem book_ok {rels : List Rl} (h : BkOk rels) (S : Store) : Mq_Book [.lst (rels.map relP)] S = .ok [.tup (rels.map relP), .tup (rels.map plP)] S := by
  have lc := lc_mapL (g := gNm 2) (t := mTrue) (a := mArgs Mir.gTup (mCons (mFldI "Relation" "size" (mVar 2)) (mCons (mFldI "Relation" "rows" (mVar 2)) mNil))) (ρ := [.none, .val (.lst (rels.map relP)), .none]) (S := S) relP plP (ps := rels) (fun p hp => by
    refine ⟨_, rfl, rfl, ?_⟩
    unfold relP relV plP plainV
    simp only [ev_bind, ev_nox, ev_seq, ev_set, ev_setOwn, ev_share, ev_drop, ev_ret, ev_retOwn, ev_skip, ev_brk, ev_cnt, ev_ifS, ev_frzS, ev_append, ev_setIx, ev_for, ev_lc, ev_seqOf, ev_range, ev_var, ev_c, ev_op, ev_un, ev_args, ev_nil, ev_cons, ev_frz, ev_b, ev_and, ev_or, ev_not, ev_andV, ev_orV, ev_notV, ev_if, ev_chain, ev_isi, ev_ixOwn, ev_lenOwn, ev_call, ev_callK, ev_sl, ev_part, ev_true, ev_nm, ev_toB, frz, frzAt, toSeq_tup, toSeq_lst, toSeq_cl, toRet, mWipe, kbG, Mir.gTup, Mir.gLst, List.getElem?_cons_zero, List.getElem?_cons_succ, List.set_cons_zero, List.set_cons_succ, List.length_cons, List.length_nil, List.append_nil, List.nil_append, List.cons_append, Nat.reduceAdd, Nat.reduceLeDiff, Nat.reduceEqDiff, Nat.zero_add, reduceIte, Bool.false_eq_true, Bool.not_true, Bool.not_false, and_self, sizeM_eq, ev_make, ev_fldI, ev_isiC, ev_sortD, ev_key, ev_join, fld_size, fld_rows])
  have z : rels.length ≤ 100000 := by have := h.six; omega
  show mBody gsq_Book fsq_Book [.none, .val (.lst (rels.map relP)), .none] S = _
  unfold gsq_Book fsq_Book
  unfold mBody mGuard
  simp only [ev_bind, ev_nox, ev_seq, ev_set, ev_setOwn, ev_share, ev_drop, ev_ret, ev_retOwn, ev_skip, ev_brk, ev_cnt, ev_ifS, ev_frzS, ev_append, ev_setIx, ev_for, ev_lc, ev_seqOf, ev_range, ev_var, ev_c, ev_op, ev_un, ev_args, ev_nil, ev_cons, ev_frz, ev_b, ev_and, ev_or, ev_not, ev_andV, ev_orV, ev_notV, ev_if, ev_chain, ev_isi, ev_ixOwn, ev_lenOwn, ev_call, ev_callK, ev_sl, ev_part, ev_true, ev_nm, ev_toB, frz, frzAt, toSeq_tup, toSeq_lst, toSeq_cl, toRet, mWipe, kbG, Mir.gTup, Mir.gLst, List.getElem?_cons_zero, List.getElem?_cons_succ, List.set_cons_zero, List.set_cons_succ, List.length_cons, List.length_nil, List.append_nil, List.nil_append, List.cons_append, Nat.reduceAdd, Nat.reduceLeDiff, Nat.reduceEqDiff, Nat.zero_add, reduceIte, Bool.false_eq_true, Bool.not_true, Bool.not_false, and_self, sizeM_eq, arels_ok h]
  unfold mBody mFields mFields mFields
  simp only [ev_bind, ev_nox, ev_seq, ev_set, ev_setOwn, ev_share, ev_drop, ev_ret, ev_retOwn, ev_skip, ev_brk, ev_cnt, ev_ifS, ev_frzS, ev_append, ev_setIx, ev_for, ev_lc, ev_seqOf, ev_range, ev_var, ev_c, ev_op, ev_un, ev_args, ev_nil, ev_cons, ev_frz, ev_b, ev_and, ev_or, ev_not, ev_andV, ev_orV, ev_notV, ev_if, ev_chain, ev_isi, ev_ixOwn, ev_lenOwn, ev_call, ev_callK, ev_sl, ev_part, ev_true, ev_nm, ev_toB, frz, frzAt, toSeq_tup, toSeq_lst, toSeq_cl, toRet, mWipe, kbG, Mir.gTup, Mir.gLst, List.getElem?_cons_zero, List.getElem?_cons_succ, List.set_cons_zero, List.set_cons_succ, List.length_cons, List.length_nil, List.append_nil, List.nil_append, List.cons_append, Nat.reduceAdd, Nat.reduceLeDiff, Nat.reduceEqDiff, Nat.zero_add, reduceIte, Bool.false_eq_true, Bool.not_true, Bool.not_false, and_self, sizeM_eq, gTuple, List.length_map, z, lc]
/-! ### the first relation that is not kept -/
def dueF (rels : List Rl) (tb : List Int) (m : Nat) : Option (Rl × Nat) := rels.zipIdx.find? fun x => (brk x.1.2 tb x.1.1 m).isSome
def dueV1 (tb : List Int) (m : Nat) (x : Rl × Nat) : PV := .tup [.int x.2, brkV (brk x.1.2 tb x.1.1 m)]
def dueV (tb : List Int) (m : Nat) : Option (Rl × Nat) → PV
  | none => .non
  | some x => dueV1 tb m x
theorem enum_zip (F : Rl → PV) : ∀ (rels : List Rl) (k : Nat), enumP k (rels.map F) = (rels.zipIdx k).map fun x => PV.tup [.int x.2, F x.1]
  | [], _ => rfl
  | p :: rels, k => by
    rw [List.map_cons, List.zipIdx_cons, List.map_cons, enumP, enum_zip F rels (k + 1)]
theorem rng_zip (rels : List Rl) : rng rels.length = rels.zipIdx.map fun x => PV.int (x.2 : Nat) := by
  have : rels.zipIdx.map (·.2) = List.range rels.length := by rw [List.zipIdx_map_snd, List.range_eq_range']
  unfold rng
  rw [← this, List.map_map]
  rfl
theorem isN_brk (t : Option (List (List Int))) (S : Store) : gIsN (brkV t) .non S = .ok (.bl t.isSome) S := by
  cases t <;> rfl
theorem breakof_ok {rels : List Rl} (h : BkOk rels) {m : Nat} (h1 : 1 ≤ m) (h4 : m ≤ 4) (hz : ∀ p ∈ rels, p.2.length ^ m ≤ 90000) {tb : List Int} (hT : TabM m tb) (S : Store) : Mq_break_of [bookV rels, rowP tb] S = .ok (dueV tb m (dueF rels tb m)) S := by
  have lc := lc_filterL (g := gNm 5) (t := mB (mCall 2 Mq_is_table [] (mCons (mVar 1) (mCons (mVar 5) mNil)))) (a := mVar 5) (ρ := [.val (bookV rels), .val (rowP tb), .none, .none, .none, .none]) (S := S) (fun k : Nat => PV.int k) (fun k : Nat => PV.int k) (fun k => decide (k = m)) (ps := [1, 2, 3, 4]) (fun k hk => by
    simp only [List.mem_cons, List.not_mem_nil, or_false] at hk
    refine ⟨_, rfl, ?_, fun _ => rfl⟩
    simp only [ev_bind, ev_nox, ev_seq, ev_set, ev_setOwn, ev_share, ev_drop, ev_ret, ev_retOwn, ev_skip, ev_brk, ev_cnt, ev_ifS, ev_frzS, ev_append, ev_setIx, ev_for, ev_lc, ev_seqOf, ev_range, ev_var, ev_c, ev_op, ev_un, ev_args, ev_nil, ev_cons, ev_frz, ev_b, ev_and, ev_or, ev_not, ev_andV, ev_orV, ev_notV, ev_if, ev_chain, ev_isi, ev_ixOwn, ev_lenOwn, ev_call, ev_callK, ev_sl, ev_part, ev_true, ev_nm, ev_toB, frz, frzAt, toSeq_tup, toSeq_lst, toSeq_cl, toRet, mWipe, kbG, Mir.gTup, Mir.gLst, List.getElem?_cons_zero, List.getElem?_cons_succ, List.set_cons_zero, List.set_cons_succ, List.length_cons, List.length_nil, List.append_nil, List.nil_append, List.cons_append, Nat.reduceAdd, Nat.reduceLeDiff, Nat.reduceEqDiff, Nat.zero_add, reduceIte, Bool.false_eq_true, Bool.not_true, Bool.not_false, and_self, sizeM_eq, istab_ok h1 h4 hT (k := k) (by omega) (by omega)])
  have fm : ([1, 2, 3, 4] : List Nat).filter (fun k => decide (k = m)) = [m] := by
    match m, h1, h4 with
    | 1, _, _ => rfl
    | 2, _, _ => rfl
    | 3, _, _ => rfl
    | 4, _, _ => rfl
  rw [fm] at lc
  have lc : mLcGo (gNm 5) (mB (mCall 2 Mq_is_table [] (mCons (mVar 1) (mCons (mVar 5) mNil)))) (mVar 5) [.val (bookV rels), .val (rowP tb), .none, .none, .none, .none] [.int 1, .int 2, .int 3, .int 4] S = .ok [.int m] S := lc
  have r2 : ∀ S, gRange2 [.int 1, .int 5] S = .ok [.int 1, .int 2, .int 3, .int 4] S := fun S => by kernel_rfl
  have eq : ∀ S, gEqD false (.lst [.int m]) (.lst []) S = .ok (.bl false) S := fun S => by
    match m, h1, h4 with
    | 1, _, _ => kernel_rfl
    | 2, _, _ => kernel_rfl
    | 3, _, _ => kernel_rfl
    | 4, _, _ => kernel_rfl
  have fr : List.lookup ("relations" : Str) ((["relations", "plain"] : List Str).zip [PV.tup (rels.map relP), .tup (rels.map plP)]) = some (.tup (rels.map relP)) := rfl
  obtain ⟨o, e, ho⟩ := for_find (g := gUn 2 (gsCons (gNm 2) (gsCons (gNm 3) gsNil))) (b := mSeq (mSet 4 (mCall 2 Mq_break_in [] (mCons (mVar 3) (mCons (mVar 1) mNil)))) (mIfS (mB (mOp gIsN (mVar 4) (mC .non))) (mRet (mArgs Mir.gTup (mCons (mVar 2) (mCons (mVar 4) mNil)))) mSkip)) (S := S)
    (fun x : Rl × Nat => PV.tup [.int x.2, relP x.1]) (fun x => (brk x.1.2 tb x.1.1 m).isSome) (dueV1 tb m) (fun ρ => ∃ s2 s3 s4, ρ = [.val (bookV rels), .val (rowP tb), s2, s3, s4, .none]) (ps := rels.zipIdx) (by
      rintro ⟨p, i⟩ hx ρ ⟨s2, s3, s4, rfl⟩
      have hp : p ∈ rels := List.fst_mem_of_mem_zipIdx hx
      have bi := fun S => breakin_ok (h.all p hp) h1 h4 (hz p hp) hT S
      refine ⟨fun q => ?_, fun q => ⟨[.val (bookV rels), .val (rowP tb), .val (.int i), .val (relP p), .val (brkV (brk p.2 tb p.1 m)), .none], ?_, _, _, _, rfl⟩⟩
      · unfold relP
        simp only [ev_bindExc, ev_asg, ev_unTup, ev_unLst, ev_tupM, ev_gsCons, ev_gsNil, ev_raise, ev_tryL, ev_tryOk, ev_tryExc, ev_tryB, ev_tryBOk, ev_tryBExc, endS_rtE, endS_nxE, ev_kin, ev_kget, ev_index, eqD_int, neD_int, ev_bind, ev_nox, ev_seq, ev_set, ev_setOwn, ev_share, ev_drop, ev_ret, ev_retOwn, ev_skip, ev_brk, ev_cnt, ev_ifS, ev_frzS, ev_append, ev_setIx, ev_for, ev_lc, ev_seqOf, ev_range, ev_var, ev_c, ev_op, ev_un, ev_args, ev_nil, ev_cons, ev_frz, ev_b, ev_and, ev_or, ev_not, ev_andV, ev_orV, ev_notV, ev_if, ev_chain, ev_isi, ev_ixOwn, ev_lenOwn, ev_call, ev_callK, ev_sl, ev_part, ev_true, ev_nm, ev_toB, frz, frzAt, toSeq_tup, toSeq_lst, toSeq_cl, toRet, mWipe, kbG, Mir.gTup, Mir.gLst, List.getElem?_cons_zero, List.getElem?_cons_succ, List.set_cons_zero, List.set_cons_succ, List.length_cons, List.length_nil, List.append_nil, List.nil_append, List.cons_append, Nat.reduceAdd, Nat.reduceLeDiff, Nat.reduceEqDiff, Nat.zero_add, reduceIte, Bool.false_eq_true, Bool.not_true, Bool.not_false, and_self, sizeM_eq, bi, isN_brk, q]
        rfl
      · unfold relP
        simp only [ev_bindExc, ev_asg, ev_unTup, ev_unLst, ev_tupM, ev_gsCons, ev_gsNil, ev_raise, ev_tryL, ev_tryOk, ev_tryExc, ev_tryB, ev_tryBOk, ev_tryBExc, endS_rtE, endS_nxE, ev_kin, ev_kget, ev_index, eqD_int, neD_int, ev_bind, ev_nox, ev_seq, ev_set, ev_setOwn, ev_share, ev_drop, ev_ret, ev_retOwn, ev_skip, ev_brk, ev_cnt, ev_ifS, ev_frzS, ev_append, ev_setIx, ev_for, ev_lc, ev_seqOf, ev_range, ev_var, ev_c, ev_op, ev_un, ev_args, ev_nil, ev_cons, ev_frz, ev_b, ev_and, ev_or, ev_not, ev_andV, ev_orV, ev_notV, ev_if, ev_chain, ev_isi, ev_ixOwn, ev_lenOwn, ev_call, ev_callK, ev_sl, ev_part, ev_true, ev_nm, ev_toB, frz, frzAt, toSeq_tup, toSeq_lst, toSeq_cl, toRet, mWipe, kbG, Mir.gTup, Mir.gLst, List.getElem?_cons_zero, List.getElem?_cons_succ, List.set_cons_zero, List.set_cons_succ, List.length_cons, List.length_nil, List.append_nil, List.nil_append, List.cons_append, Nat.reduceAdd, Nat.reduceLeDiff, Nat.reduceEqDiff, Nat.zero_add, reduceIte, Bool.false_eq_true, Bool.not_true, Bool.not_false, and_self, sizeM_eq, bi, isN_brk, q]) [.val (bookV rels), .val (rowP tb), .none, .none, .none, .none] ⟨_, _, _, rfl⟩
  show (Bq_break_of [.val (bookV rels), .val (rowP tb), .none, .none, .none, .none] S).bind toRet = _
  unfold Bq_break_of
  unfold bookV at e lc ⊢
  simp only [ev_bind, ev_nox, ev_seq, ev_set, ev_setOwn, ev_share, ev_drop, ev_ret, ev_retOwn, ev_skip, ev_brk, ev_cnt, ev_ifS, ev_frzS, ev_append, ev_setIx, ev_for, ev_lc, ev_seqOf, ev_range, ev_var, ev_c, ev_op, ev_un, ev_args, ev_nil, ev_cons, ev_frz, ev_b, ev_and, ev_or, ev_not, ev_andV, ev_orV, ev_notV, ev_if, ev_chain, ev_isi, ev_ixOwn, ev_lenOwn, ev_call, ev_callK, ev_sl, ev_part, ev_true, ev_nm, ev_toB, frz, frzAt, toSeq_tup, toSeq_lst, toSeq_cl, toRet, mWipe, kbG, Mir.gTup, Mir.gLst, List.getElem?_cons_zero, List.getElem?_cons_succ, List.set_cons_zero, List.set_cons_succ, List.length_cons, List.length_nil, List.append_nil, List.nil_append, List.cons_append, Nat.reduceAdd, Nat.reduceLeDiff, Nat.reduceEqDiff, Nat.zero_add, reduceIte, Bool.false_eq_true, Bool.not_true, Bool.not_false, and_self, sizeM_eq, ev_make, ev_fldI, ev_isiC, ev_sortD, ev_key, ev_join, r2, lc, eq, fr, gEnum, enum_zip, e]
  unfold dueF
  cases q : rels.zipIdx.find? (fun x => (brk x.1.2 tb x.1.1 m).isSome) with
  | some x =>
    rw [q] at ho
    subst ho
    rfl
  | none =>
    rw [q] at ho
    obtain ⟨ρ', rfl, _⟩ := ho
    rfl
theorem due_ok {rels : List Rl} (h : ∀ p ∈ rels, RlOk p.1 p.2) (hl : rels.length ≤ 1000) {m : Nat} (h1 : 1 ≤ m) (h4 : m ≤ 4) (hz : ∀ p ∈ rels, p.2.length ^ m ≤ 90000) {tb : List Int} (hT : TabM m tb) (S : Store) : Mq__law_due [.lst (rels.map plP), rowP tb, .int m] S = .ok (dueV tb m (dueF rels tb m)) S := by
  obtain ⟨o, e, ho⟩ := for_find (g := gNm 3) (b := mSeq (mSet 4 (mCall 3 Mq__law_break [] (mCons (mOp gIx (mVar 0) (mVar 3)) (mCons (mVar 1) (mCons (mVar 2) mNil))))) (mIfS (mB (mOp gIsN (mVar 4) (mC .non))) (mRet (mArgs Mir.gTup (mCons (mVar 3) (mCons (mVar 4) mNil)))) mSkip)) (S := S)
    (fun x : Rl × Nat => PV.int (x.2 : Nat)) (fun x => (brk x.1.2 tb x.1.1 m).isSome) (dueV1 tb m) (fun ρ => ∃ s3 s4, ρ = [.val (.lst (rels.map plP)), .val (rowP tb), .val (.int m), s3, s4]) (ps := rels.zipIdx) (by
      rintro ⟨p, i⟩ hx ρ ⟨s3, s4, rfl⟩
      have hp : p ∈ rels := List.fst_mem_of_mem_zipIdx hx
      have hi : rels[i]? = some p := List.mem_zipIdx_iff_getElem?.mp hx
      have il : i < rels.length := (List.getElem?_eq_some_iff.mp hi).1
      have ix : ∀ S, gIx (.lst (rels.map plP)) (.int i) S = .ok (plP p) S := fun S => by
        rw [ix_l]
        obtain ⟨hj, ea⟩ := atI_ok (xs := rels.map plP) (i := (i : Int)) (by omega) (by rw [List.length_map]; omega)
        rw [ea]
        have : (rels.map plP)[(i : Int).toNat] = plP p := by
          rw [List.getElem_map]
          have e2 := (List.getElem?_eq_some_iff.mp hi).2
          simp only [Int.toNat_natCast, e2]
        rw [this]
      have bi := fun S => lbreak_ok (h p hp) h1 h4 (hz p hp) hT S
      refine ⟨fun q => ?_, fun q => ⟨[.val (.lst (rels.map plP)), .val (rowP tb), .val (.int m), .val (.int i), .val (brkV (brk p.2 tb p.1 m))], ?_, _, _, rfl⟩⟩
      · unfold plP at ix ⊢
        simp only [ev_bind, ev_nox, ev_seq, ev_set, ev_setOwn, ev_share, ev_drop, ev_ret, ev_retOwn, ev_skip, ev_brk, ev_cnt, ev_ifS, ev_frzS, ev_append, ev_setIx, ev_for, ev_lc, ev_seqOf, ev_range, ev_var, ev_c, ev_op, ev_un, ev_args, ev_nil, ev_cons, ev_frz, ev_b, ev_and, ev_or, ev_not, ev_andV, ev_orV, ev_notV, ev_if, ev_chain, ev_isi, ev_ixOwn, ev_lenOwn, ev_call, ev_callK, ev_sl, ev_part, ev_true, ev_nm, ev_toB, frz, frzAt, toSeq_tup, toSeq_lst, toSeq_cl, toRet, mWipe, kbG, Mir.gTup, Mir.gLst, List.getElem?_cons_zero, List.getElem?_cons_succ, List.set_cons_zero, List.set_cons_succ, List.length_cons, List.length_nil, List.append_nil, List.nil_append, List.cons_append, Nat.reduceAdd, Nat.reduceLeDiff, Nat.reduceEqDiff, Nat.zero_add, reduceIte, Bool.false_eq_true, Bool.not_true, Bool.not_false, and_self, sizeM_eq, ix, bi, isN_brk, q]
        rfl
      · unfold plP at ix ⊢
        simp only [ev_bind, ev_nox, ev_seq, ev_set, ev_setOwn, ev_share, ev_drop, ev_ret, ev_retOwn, ev_skip, ev_brk, ev_cnt, ev_ifS, ev_frzS, ev_append, ev_setIx, ev_for, ev_lc, ev_seqOf, ev_range, ev_var, ev_c, ev_op, ev_un, ev_args, ev_nil, ev_cons, ev_frz, ev_b, ev_and, ev_or, ev_not, ev_andV, ev_orV, ev_notV, ev_if, ev_chain, ev_isi, ev_ixOwn, ev_lenOwn, ev_call, ev_callK, ev_sl, ev_part, ev_true, ev_nm, ev_toB, frz, frzAt, toSeq_tup, toSeq_lst, toSeq_cl, toRet, mWipe, kbG, Mir.gTup, Mir.gLst, List.getElem?_cons_zero, List.getElem?_cons_succ, List.set_cons_zero, List.set_cons_succ, List.length_cons, List.length_nil, List.append_nil, List.nil_append, List.cons_append, Nat.reduceAdd, Nat.reduceLeDiff, Nat.reduceEqDiff, Nat.zero_add, reduceIte, Bool.false_eq_true, Bool.not_true, Bool.not_false, and_self, sizeM_eq, ix, bi, isN_brk, q]) [.val (.lst (rels.map plP)), .val (rowP tb), .val (.int m), .none, .none] ⟨_, _, rfl⟩
  rw [← rng_zip] at e
  show (Bq__law_due [.val (.lst (rels.map plP)), .val (rowP tb), .val (.int m), .none, .none] S).bind toRet = _
  unfold Bq__law_due
  simp only [ev_bind, ev_nox, ev_seq, ev_set, ev_setOwn, ev_share, ev_drop, ev_ret, ev_retOwn, ev_skip, ev_brk, ev_cnt, ev_ifS, ev_frzS, ev_append, ev_setIx, ev_for, ev_lc, ev_seqOf, ev_range, ev_var, ev_c, ev_op, ev_un, ev_args, ev_nil, ev_cons, ev_frz, ev_b, ev_and, ev_or, ev_not, ev_andV, ev_orV, ev_notV, ev_if, ev_chain, ev_isi, ev_ixOwn, ev_lenOwn, ev_call, ev_callK, ev_sl, ev_part, ev_true, ev_nm, ev_toB, frz, frzAt, toSeq_tup, toSeq_lst, toSeq_cl, toRet, mWipe, kbG, Mir.gTup, Mir.gLst, List.getElem?_cons_zero, List.getElem?_cons_succ, List.set_cons_zero, List.set_cons_succ, List.length_cons, List.length_nil, List.append_nil, List.nil_append, List.cons_append, Nat.reduceAdd, Nat.reduceLeDiff, Nat.reduceEqDiff, Nat.zero_add, reduceIte, Bool.false_eq_true, Bool.not_true, Bool.not_false, and_self, sizeM_eq, gLen, List.length_map, rngN (show rels.length ≤ 100000 by omega), e]
  unfold dueF
  cases q : rels.zipIdx.find? (fun x => (brk x.1.2 tb x.1.1 m).isSome) with
  | some x =>
    rw [q] at ho
    subst ho
    rfl
  | none =>
    rw [q] at ho
    obtain ⟨ρ', rfl, _⟩ := ho
    rfl
end Mir
set_option maxHeartbeats 4000000
/-! MirP4: drawn rows, tables, books. -/
namespace Mir
open PySem L2
section
variable {g : PV → Rho → Store → Res Rho} {b : Rho → Store → Res Out}
/-- a loop of any end -/
theorem for_any {xs : List PV} (Pv : Rho → Store → Prop) (Rt : PV → Store → Prop) : (∀ x ∈ xs, ∀ ρ S, Pv ρ S → ∃ o S', (g x ρ S).bind (fun ρ1 S1 => b ρ1 S1) = .ok o S' ∧ (match o with | .nx ρ' => Pv ρ' S' | .ct ρ' => Pv ρ' S' | .bk ρ' => Pv ρ' S' | .rt v => Rt v S')) →
    ∀ ρ S, Pv ρ S → ∃ o S', mForGo g b xs ρ S = .ok o S' ∧ ((∃ ρ', o = .nx ρ' ∧ Pv ρ' S') ∨ ∃ v, o = .rt v ∧ Rt v S') := by
  induction xs with
  | nil => exact fun _ ρ S h => ⟨.nx ρ, S, rfl, .inl ⟨ρ, rfl, h⟩⟩
  | cons x xs ih =>
    intro h ρ S hp
    obtain ⟨o, S1, e, ho⟩ := h x List.mem_cons_self ρ S hp
    have ih := ih fun y hy => h y (List.mem_cons_of_mem _ hy)
    cases eg : g x ρ S with
    | bad => rw [eg] at e; cases e
    | exc c fs S2 => rw [eg] at e; cases e
    | ok ρ1 S2 =>
      rw [eg] at e
      have e : b ρ1 S2 = .ok o S1 := e
      cases o with
      | nx ρ2 =>
        obtain ⟨o', S', e', h'⟩ := ih ρ2 S1 ho
        refine ⟨o', S', ?_, h'⟩
        show ((g x ρ S).bind fun ρ1 S1 => (b ρ1 S1).bind _) = _
        rw [eg]
        show (b ρ1 S2).bind _ = _
        rw [e]
        exact e'
      | ct ρ2 =>
        obtain ⟨o', S', e', h'⟩ := ih ρ2 S1 ho
        refine ⟨o', S', ?_, h'⟩
        show ((g x ρ S).bind fun ρ1 S1 => (b ρ1 S1).bind _) = _
        rw [eg]
        show (b ρ1 S2).bind _ = _
        rw [e]
        exact e'
      | bk ρ2 =>
        refine ⟨.nx ρ2, S1, ?_, .inl ⟨ρ2, rfl, ho⟩⟩
        show ((g x ρ S).bind fun ρ1 S1 => (b ρ1 S1).bind _) = _
        rw [eg]
        show (b ρ1 S2).bind _ = _
        rw [e]
        rfl
      | rt v =>
        refine ⟨.rt v, S1, ?_, .inr ⟨v, rfl, ho⟩⟩
        show ((g x ρ S).bind fun ρ1 S1 => (b ρ1 S1).bind _) = _
        rw [eg]
        show (b ρ1 S2).bind _ = _
        rw [e]
        rfl
end
/-! ### rows without order -/
theorem nodup_len {α : Type} [DecidableEq α] : ∀ (l D : List α), l.Nodup → (∀ x ∈ l, x ∈ D) → l.length ≤ D.length
  | [], _, _, _ => Nat.zero_le _
  | x :: l, D, hn, hs => by
    obtain ⟨h1, h2⟩ := List.nodup_cons.mp hn
    have hx : x ∈ D := hs x List.mem_cons_self
    have ih := nodup_len l (D.erase x) h2 fun y hy => (List.mem_erase_of_ne (show y ≠ x from fun e => h1 (by rw [← e]; exact hy))).2 (hs y (List.mem_cons_of_mem _ hy))
    have e := List.length_erase_of_mem hx
    have hp : 0 < D.length := List.length_pos_of_mem hx
    rw [List.length_cons]
    omega
theorem mem_rowsE : ∀ {n : Nat} {r : List Int}, r.length = n → Bits r → r ∈ rowsE n
  | 0, r, h, _ => by
    rw [List.length_eq_zero_iff.mp h]
    exact List.mem_singleton.mpr rfl
  | n + 1, r, h, hb => by
    have hne : r ≠ [] := fun e => by rw [e] at h; cases h
    have e := List.dropLast_concat_getLast hne
    have ih := mem_rowsE (n := n) (r := r.dropLast) (by rw [List.length_dropLast, h]; rfl) fun b hb' => hb b ((List.dropLast_sublist r).subset hb')
    show r ∈ (rowsE n).flatMap fun r => [r ++ [0], r ++ [1]]
    refine List.mem_flatMap.mpr ⟨r.dropLast, ih, ?_⟩
    have hl := hb _ (List.getLast_mem hne)
    rw [← e]
    rcases hl with hl | hl <;> rw [hl] <;> simp
/-- distinct rows of n bits -/
structure Some_ (n : Nat) (L : List (List Int)) : Prop where
  rows : RowsN n L
  nd : L.Nodup
theorem some_nil {n : Nat} : Some_ n [] := ⟨fun _ m => (by cases m), List.nodup_nil⟩
theorem Some_.few {n : Nat} (h4 : n ≤ 4) {L : List (List Int)} (h : Some_ n L) : L.length ≤ 16 := by
  have h1 := nodup_len L (rowsE n) h.nd fun r hr => mem_rowsE (h.rows r hr).1 (h.rows r hr).2
  have h2 := rowsE_len n
  have h3 : 2 ^ n ≤ 2 ^ 4 := Nat.pow_le_pow_right (by decide) h4
  omega
theorem Some_.snoc {n : Nat} {L : List (List Int)} (h : Some_ n L) {r : List Int} (hr : r.length = n ∧ Bits r) (hn : r ∉ L) : Some_ n (L ++ [r]) := by
  refine ⟨fun x hx => ?_, ?_⟩
  · rcases List.mem_append.mp hx with z | z
    · exact h.rows x z
    · rw [List.mem_singleton.mp z]; exact hr
  · rw [List.nodup_append]
    refine ⟨h.nd, by simp, fun a ha c hc e => ?_⟩
    rw [List.mem_singleton.mp hc] at e
    exact hn (e ▸ ha)
theorem row_bd {n : Nat} {L : List (List Int)} (h : RowsN n L) : ∀ r ∈ L, TS.Bd 1000000 r := fun r hr m hm => by
  rcases (h r hr).2 m hm with rfl | rfl <;> decide
theorem sort_rl {n : Nat} (h1 : 1 ≤ n) (h4 : n ≤ 4) {L : List (List Int)} (h : Some_ n L) (h0 : L ≠ []) : RlOk n (sortR 1000000 L) := by
  have pm := sortR_perm (B := 1000000) L
  have mem : ∀ r ∈ sortR 1000000 L, r ∈ L := fun r hr => pm.mem_iff.mp hr
  refine ⟨h1, h4, fun r hr => h.rows r (mem r hr), fun e => ?_, ?_, ?_⟩
  · rw [e] at pm
    exact h0 (List.nil_perm.mp pm)
  · have nd : (sortR 1000000 L).Nodup := pm.nodup_iff.mpr h.nd
    have s := sortR_sorted (B := 1000000) L
    refine (s.and nd).imp_of_mem ?_
    rintro a b ha hb ⟨le, ne⟩
    have key : TS.code 1000000 a ≠ TS.code 1000000 b := fun e => ne (code_inj ((h.rows a (mem a ha)).1.trans (h.rows b (mem b hb)).1.symm) (row_bd h.rows a (mem a ha)) (row_bd h.rows b (mem b hb)) e)
    omega
  · rw [pm.length_eq]
    exact h.few h4
theorem sortL_ok {n : Nat} (h1 : 1 ≤ n) (h4 : n ≤ 4) {L : List (List Int)} (h : Some_ n L) (S : Store) : gSortL 1000000 [.lst (L.map rowP)] S = .ok (.lst ((sortR 1000000 L).map rowP)) S := by
  show sortL 1000000 (L.map rowP) S = _
  unfold sortL
  rw [toRows_rows]
  show (if rowsB 1000000 L = true then _ else _) = _
  rw [if_pos (rowsB_rows h1 h.rows (by have := h.few h4; omega))]
  rfl
theorem ev_inOwn {neg : Bool} {i : Nat} {a : Rho → Store → Res PV} {ρ : Rho} {S : Store} : mInOwn neg i a ρ S = (a ρ S).bind fun x S1 => match ρ[i]? with
  | some (.own (.lst xs)) => gInD neg x (.lst xs) S1
  | _ => .bad := nrfl rfl
/-! ### _law_rows -/
def B_drw : Rho → Store → Res Out := (mSeq (mSet 6 (mOp gIx (mVar 3) (mCall 2 Mq__law_take [] (mCons (mVar 0) (mCons (mArgs gLen (mCons (mVar 3) mNil)) mNil)))))
    (mIfS (mB (mInOwn true 4 (mVar 6)))
    (mAppend 4 (mVar 6))
    mSkip))
theorem rows_drawn {S R : Store} (h : Hand S R) {n : Nat} (h1 : 1 ≤ n) (h4 : n ≤ 4) {most : Nat} (hm : 1 ≤ most) (hm2 : most ≤ 1000) : ∃ (rs : List (List Int)) (S' : Store), Mq__law_rows [.obj 0, .int n, .int most] S = .ok (.tup (rs.map rowP)) S' ∧ Hand S' R ∧ RlOk n rs := by
  have ev : ∀ S, Mq__law_every [.int n] S = .ok (.lst ((rowsE n).map rowP)) S := fun S => every_ok (by omega) S
  obtain ⟨u, S1, e1, g1, u0, u1⟩ := takeq (many := (most : Int)) h (by omega)
  obtain ⟨k, hk⟩ : ∃ k : Nat, 1 + u = k := ⟨(1 + u).toNat, by omega⟩
  have el := rowsE_len n
  have ep : 1 ≤ 2 ^ n := Nat.pow_pos (by decide)
  obtain ⟨ρ', S2, e2, g2, L, s5, s6, rfl, sL, hne⟩ := for_inv (g := gNm 5) (b := B_drw) (xs := rng k)
    (fun pre ρ S' => Hand S' R ∧ ∃ L s5 s6, ρ = [.val (.obj 0), .val (.int n), .val (.int most), .val (.lst ((rowsE n).map rowP)), .own (.lst (L.map rowP)), s5, s6] ∧ Some_ n L ∧ (pre ≠ [] → L ≠ [])) (by
      rintro pre x post ρ S' ex ⟨g, L, s5, s6, rfl, sL, hne⟩
      obtain ⟨v, S2, e, g2, v0, v1⟩ := takeq (many := ((rowsE n).length : Int)) g (by omega)
      obtain ⟨y, ey, hy⟩ := at_mem (xs := (rowsE n).map rowP) v0 (by rw [List.length_map]; exact v1)
      obtain ⟨r, hr, rfl⟩ := List.mem_map.mp hy
      have ir := fun S => in_rows (RowsV.lst (rs := L)) true r S
      have few := sL.few h4
      have zl : L.length < 100000 := by omega
      by_cases q : r ∈ L
      · refine ⟨[.val (.obj 0), .val (.int n), .val (.int most), .val (.lst ((rowsE n).map rowP)), .own (.lst (L.map rowP)), .val x, .val (rowP r)], S2, .inl ?_, g2, L, _, _, rfl, sL, fun _ e => by rw [e] at q; cases q⟩
        unfold B_drw
        simp only [ev_bind, ev_nox, ev_seq, ev_set, ev_setOwn, ev_share, ev_drop, ev_ret, ev_retOwn, ev_skip, ev_brk, ev_cnt, ev_ifS, ev_frzS, ev_append, ev_setIx, ev_for, ev_lc, ev_seqOf, ev_range, ev_var, ev_c, ev_op, ev_un, ev_args, ev_nil, ev_cons, ev_frz, ev_b, ev_and, ev_or, ev_not, ev_andV, ev_orV, ev_notV, ev_if, ev_chain, ev_isi, ev_ixOwn, ev_lenOwn, ev_call, ev_callK, ev_sl, ev_part, ev_true, ev_nm, ev_toB, frz, frzAt, toSeq_tup, toSeq_lst, toSeq_cl, toRet, mWipe, kbG, Mir.gTup, Mir.gLst, List.getElem?_cons_zero, List.getElem?_cons_succ, List.set_cons_zero, List.set_cons_succ, List.length_cons, List.length_nil, List.append_nil, List.nil_append, List.cons_append, Nat.reduceAdd, Nat.reduceLeDiff, Nat.reduceEqDiff, Nat.zero_add, reduceIte, Bool.false_eq_true, Bool.not_true, Bool.not_false, and_self, sizeM_eq, ev_inOwn, gLen, List.length_map, e, ix_l, ey, ir, decide_eq_true q]
      · refine ⟨[.val (.obj 0), .val (.int n), .val (.int most), .val (.lst ((rowsE n).map rowP)), .own (.lst ((L ++ [r]).map rowP)), .val x, .val (rowP r)], S2, .inl ?_, g2, L ++ [r], _, _, rfl, sL.snoc (rowsE_mem hr) q, fun _ => by simp⟩
        unfold B_drw
        simp only [ev_bind, ev_nox, ev_seq, ev_set, ev_setOwn, ev_share, ev_drop, ev_ret, ev_retOwn, ev_skip, ev_brk, ev_cnt, ev_ifS, ev_frzS, ev_append, ev_setIx, ev_for, ev_lc, ev_seqOf, ev_range, ev_var, ev_c, ev_op, ev_un, ev_args, ev_nil, ev_cons, ev_frz, ev_b, ev_and, ev_or, ev_not, ev_andV, ev_orV, ev_notV, ev_if, ev_chain, ev_isi, ev_ixOwn, ev_lenOwn, ev_call, ev_callK, ev_sl, ev_part, ev_true, ev_nm, ev_toB, frz, frzAt, toSeq_tup, toSeq_lst, toSeq_cl, toRet, mWipe, kbG, Mir.gTup, Mir.gLst, List.getElem?_cons_zero, List.getElem?_cons_succ, List.set_cons_zero, List.set_cons_succ, List.length_cons, List.length_nil, List.append_nil, List.nil_append, List.cons_append, Nat.reduceAdd, Nat.reduceLeDiff, Nat.reduceEqDiff, Nat.zero_add, reduceIte, Bool.false_eq_true, Bool.not_true, Bool.not_false, and_self, sizeM_eq, ev_inOwn, gLen, List.length_map, e, ix_l, ey, ir, decide_eq_false q, zl, List.map_append, List.map_cons, List.map_nil]) [.val (.obj 0), .val (.int n), .val (.int most), .val (.lst ((rowsE n).map rowP)), .own (.lst []), .none, .none] S1 ⟨g1, [], _, _, rfl, some_nil, fun z => absurd rfl z⟩
  have hk1 : rng k ≠ [] := fun q => by
    have := congrArg List.length q
    rw [rngN_len] at this
    simp at this
    omega
  have L0 := hne hk1
  refine ⟨sortR 1000000 L, S2, ?_, g2, sort_rl h1 h4 sL L0⟩
  show (Bq__law_rows [.val (.obj 0), .val (.int n), .val (.int most), .none, .none, .none, .none] S).bind toRet = _
  unfold B_drw at e2
  unfold Bq__law_rows
  simp only [ev_bind, ev_nox, ev_seq, ev_set, ev_setOwn, ev_share, ev_drop, ev_ret, ev_retOwn, ev_skip, ev_brk, ev_cnt, ev_ifS, ev_frzS, ev_append, ev_setIx, ev_for, ev_lc, ev_seqOf, ev_range, ev_var, ev_c, ev_op, ev_un, ev_args, ev_nil, ev_cons, ev_frz, ev_b, ev_and, ev_or, ev_not, ev_andV, ev_orV, ev_notV, ev_if, ev_chain, ev_isi, ev_ixOwn, ev_lenOwn, ev_call, ev_callK, ev_sl, ev_part, ev_true, ev_nm, ev_toB, frz, frzAt, toSeq_tup, toSeq_lst, toSeq_cl, toRet, mWipe, kbG, Mir.gTup, Mir.gLst, List.getElem?_cons_zero, List.getElem?_cons_succ, List.set_cons_zero, List.set_cons_succ, List.length_cons, List.length_nil, List.append_nil, List.nil_append, List.cons_append, Nat.reduceAdd, Nat.reduceLeDiff, Nat.reduceEqDiff, Nat.zero_add, reduceIte, Bool.false_eq_true, Bool.not_true, Bool.not_false, and_self, sizeM_eq, ev, gAddA, gAdd, e1, hk, rngN (show k ≤ 100000 by omega), e2, sortL_ok h1 h4 sL, gTuple]
/-! ### _law_closed -/
def B_more : Rho → Store → Res Out := (mSeq (mSet 7 (mCall 2 Mq__law_made [] (mCons (mVar 1) (mCons (mVar 6) mNil))))
    (mIfS (mAnd (mB (mOp (gInD true) (mVar 7) (mVar 3))) (mB (mInOwn true 5 (mVar 7))))
    (mAppend 5 (mVar 7))
    mSkip))
def B_clo : Rho → Store → Res Out := (mSeq (mIfS (mB (mOp gGt (mArgs gLen (mCons (mVar 3) mNil)) (mC (.int 8))))
    (mRet (mVar 0))
    mSkip)
    (mSeq (mSetOwn 5 (mArgs Mir.gLst mNil))
    (mSeq (mFor (mSeqOf (mCall 2 Mq__law_tuples [] (mCons (mVar 3) (mCons (mVar 2) mNil)))) (gNm 6)
    B_more)
    (mFrzS 5 (mSeq (mIfS (mB (mOp (gEqD false) (mArgs gLen (mCons (mVar 5) mNil)) (mC (.int 0))))
    mBrk
    mSkip)
    (mSet 3 (mOp gAddA (mVar 3) (mVar 5))))))))
theorem append_some {n : Nat} {K L : List (List Int)} (hK : Some_ n K) (hL : Some_ n L) (hd : ∀ r ∈ L, r ∉ K) : Some_ n (K ++ L) := by
  refine ⟨fun x hx => ?_, ?_⟩
  · rcases List.mem_append.mp hx with z | z
    · exact hK.rows x z
    · exact hL.rows x z
  · rw [List.nodup_append]
    exact ⟨hK.nd, hL.nd, fun a ha c hc e => hd c hc (e ▸ ha)⟩
theorem RlOk.some {n : Nat} {rs : List (List Int)} (h : RlOk n rs) : Some_ n rs := ⟨h.rows, List.Pairwise.imp (fun {a b} h e => by rw [e] at h; exact Int.lt_irrefl _ h) h.asc⟩
theorem closed_ok {n m : Nat} {rs : List (List Int)} (hR : RlOk n rs) (h1 : 1 ≤ m) (h3 : m ≤ 3) {tb : List Int} (hT : TabM m tb) (S : Store) : ∃ rs', Mq__law_closed [.tup (rs.map rowP), rowP tb] S = .ok (.tup (rs'.map rowP)) S ∧ RlOk n rs' := by
  have n1 := hR.n1
  have n4 := hR.n4
  have po : ∀ S, Mq__law_places_of [rowP tb] S = .ok (.int m) S := fun S => by
    show (Bq__law_places_of [.val (rowP tb)] S).bind toRet = _
    unfold Bq__law_places_of
    simp only [ev_bind, ev_nox, ev_seq, ev_set, ev_setOwn, ev_share, ev_drop, ev_ret, ev_retOwn, ev_skip, ev_brk, ev_cnt, ev_ifS, ev_frzS, ev_append, ev_setIx, ev_for, ev_lc, ev_seqOf, ev_range, ev_var, ev_c, ev_op, ev_un, ev_args, ev_nil, ev_cons, ev_frz, ev_b, ev_and, ev_or, ev_not, ev_andV, ev_orV, ev_notV, ev_if, ev_chain, ev_isi, ev_ixOwn, ev_lenOwn, ev_call, ev_callK, ev_sl, ev_part, ev_true, ev_nm, ev_toB, frz, frzAt, toSeq_tup, toSeq_lst, toSeq_cl, toRet, mWipe, kbG, Mir.gTup, Mir.gLst, List.getElem?_cons_zero, List.getElem?_cons_succ, List.set_cons_zero, List.set_cons_succ, List.length_cons, List.length_nil, List.append_nil, List.nil_append, List.cons_append, Nat.reduceAdd, Nat.reduceLeDiff, Nat.reduceEqDiff, Nat.zero_add, reduceIte, Bool.false_eq_true, Bool.not_true, Bool.not_false, and_self, sizeM_eq, ev_index, len_row hT]
    match m, h1, h3 with
    | 1, _, _ => kernel_rfl
    | 2, _, _ => kernel_rfl
    | 3, _, _ => kernel_rfl
  obtain ⟨o, S', e, ho⟩ := for_any (g := gNm 4) (b := B_clo) (xs := rng 16)
    (fun ρ S' => S' = S ∧ ∃ K s4 s5 s6 s7, ρ = [.val (.tup (rs.map rowP)), .val (rowP tb), .val (.int m), .val (.lst (K.map rowP)), s4, s5, s6, s7] ∧ Some_ n K ∧ K ≠ [])
    (fun v S' => S' = S ∧ v = .tup (rs.map rowP)) (by
      rintro x hx ρ S' ⟨rfl, K, s4, s5, s6, s7, rfl, sK, K0⟩
      have few := sK.few n4
      have lk : ∀ S, gLen [.lst (K.map rowP)] S = .ok (.int K.length) S := fun S => by simp only [gLen, List.length_map]
      by_cases h8 : 8 < K.length
      · refine ⟨.rt (.tup (rs.map rowP)), S', ?_, rfl, rfl⟩
        unfold B_clo
        simp only [ev_bind, ev_nox, ev_seq, ev_set, ev_setOwn, ev_share, ev_drop, ev_ret, ev_retOwn, ev_skip, ev_brk, ev_cnt, ev_ifS, ev_frzS, ev_append, ev_setIx, ev_for, ev_lc, ev_seqOf, ev_range, ev_var, ev_c, ev_op, ev_un, ev_args, ev_nil, ev_cons, ev_frz, ev_b, ev_and, ev_or, ev_not, ev_andV, ev_orV, ev_notV, ev_if, ev_chain, ev_isi, ev_ixOwn, ev_lenOwn, ev_call, ev_callK, ev_sl, ev_part, ev_true, ev_nm, ev_toB, frz, frzAt, toSeq_tup, toSeq_lst, toSeq_cl, toRet, mWipe, kbG, Mir.gTup, Mir.gLst, List.getElem?_cons_zero, List.getElem?_cons_succ, List.set_cons_zero, List.set_cons_succ, List.length_cons, List.length_nil, List.append_nil, List.nil_append, List.cons_append, Nat.reduceAdd, Nat.reduceLeDiff, Nat.reduceEqDiff, Nat.zero_add, reduceIte, Bool.false_eq_true, Bool.not_true, Bool.not_false, and_self, sizeM_eq, lk, gGt, show decide ((8 : Int) < K.length) = true from decide_eq_true (by omega)]
      · have c8 : decide ((8 : Int) < K.length) = false := decide_eq_false (by omega)
        have hz : K.length ^ m ≤ 90000 := by
          have a1 : K.length ^ m ≤ 8 ^ m := Nat.pow_le_pow_left (by omega) m
          have a2 : 8 ^ m ≤ 8 ^ 3 := Nat.pow_le_pow_right (by decide) h3
          have a3 : 8 ^ 3 = 512 := rfl
          omega
        have tu := fun S => ltuples_ok (RowsV.lst (rs := K)) K0 hz (by omega) S
        obtain ⟨ρ2, S2, e2, rfl, L, u6, u7, rfl, sL, hd⟩ := for_map (g := gNm 6) (b := B_more) tupV (ps := tuplesN K m)
          (fun pre ρ S2 => S2 = S' ∧ ∃ L u6 u7, ρ = [.val (.tup (rs.map rowP)), .val (rowP tb), .val (.int m), .val (.lst (K.map rowP)), .val x, .own (.lst (L.map rowP)), u6, u7] ∧ Some_ n L ∧ ∀ r ∈ L, r ∉ K) (by
            rintro pre t post ρ S2 ex ⟨rfl, L, u6, u7, rfl, sL, hd⟩
            have T := (tuplesN_mem sK.rows (m := m) (t := t) (by rw [ex]; simp)).1
            have mk := fun S => lmade_ok (n := n) (by omega) h1 (by omega) hT T S
            have i1 := fun S => in_rows (RowsV.lst (rs := K)) true (madeN tb t n) S
            have i2 := fun S => in_rows (RowsV.lst (rs := L)) true (madeN tb t n) S
            have fewL := sL.few n4
            have zl : L.length < 100000 := by omega
            by_cases q1 : madeN tb t n ∈ K
            · refine ⟨[.val (.tup (rs.map rowP)), .val (rowP tb), .val (.int m), .val (.lst (K.map rowP)), .val x, .own (.lst (L.map rowP)), .val (tupV t), .val (rowP (madeN tb t n))], S2, .inl ?_, rfl, L, _, _, rfl, sL, hd⟩
              unfold B_more
              simp only [ev_bind, ev_nox, ev_seq, ev_set, ev_setOwn, ev_share, ev_drop, ev_ret, ev_retOwn, ev_skip, ev_brk, ev_cnt, ev_ifS, ev_frzS, ev_append, ev_setIx, ev_for, ev_lc, ev_seqOf, ev_range, ev_var, ev_c, ev_op, ev_un, ev_args, ev_nil, ev_cons, ev_frz, ev_b, ev_and, ev_or, ev_not, ev_andV, ev_orV, ev_notV, ev_if, ev_chain, ev_isi, ev_ixOwn, ev_lenOwn, ev_call, ev_callK, ev_sl, ev_part, ev_true, ev_nm, ev_toB, frz, frzAt, toSeq_tup, toSeq_lst, toSeq_cl, toRet, mWipe, kbG, Mir.gTup, Mir.gLst, List.getElem?_cons_zero, List.getElem?_cons_succ, List.set_cons_zero, List.set_cons_succ, List.length_cons, List.length_nil, List.append_nil, List.nil_append, List.cons_append, Nat.reduceAdd, Nat.reduceLeDiff, Nat.reduceEqDiff, Nat.zero_add, reduceIte, Bool.false_eq_true, Bool.not_true, Bool.not_false, and_self, sizeM_eq, ev_inOwn, mk, i1, i2, decide_eq_true q1]
            · by_cases q2 : madeN tb t n ∈ L
              · refine ⟨[.val (.tup (rs.map rowP)), .val (rowP tb), .val (.int m), .val (.lst (K.map rowP)), .val x, .own (.lst (L.map rowP)), .val (tupV t), .val (rowP (madeN tb t n))], S2, .inl ?_, rfl, L, _, _, rfl, sL, hd⟩
                unfold B_more
                simp only [ev_bind, ev_nox, ev_seq, ev_set, ev_setOwn, ev_share, ev_drop, ev_ret, ev_retOwn, ev_skip, ev_brk, ev_cnt, ev_ifS, ev_frzS, ev_append, ev_setIx, ev_for, ev_lc, ev_seqOf, ev_range, ev_var, ev_c, ev_op, ev_un, ev_args, ev_nil, ev_cons, ev_frz, ev_b, ev_and, ev_or, ev_not, ev_andV, ev_orV, ev_notV, ev_if, ev_chain, ev_isi, ev_ixOwn, ev_lenOwn, ev_call, ev_callK, ev_sl, ev_part, ev_true, ev_nm, ev_toB, frz, frzAt, toSeq_tup, toSeq_lst, toSeq_cl, toRet, mWipe, kbG, Mir.gTup, Mir.gLst, List.getElem?_cons_zero, List.getElem?_cons_succ, List.set_cons_zero, List.set_cons_succ, List.length_cons, List.length_nil, List.append_nil, List.nil_append, List.cons_append, Nat.reduceAdd, Nat.reduceLeDiff, Nat.reduceEqDiff, Nat.zero_add, reduceIte, Bool.false_eq_true, Bool.not_true, Bool.not_false, and_self, sizeM_eq, ev_inOwn, mk, i1, i2, decide_eq_false q1, decide_eq_true q2]
              · refine ⟨[.val (.tup (rs.map rowP)), .val (rowP tb), .val (.int m), .val (.lst (K.map rowP)), .val x, .own (.lst ((L ++ [madeN tb t n]).map rowP)), .val (tupV t), .val (rowP (madeN tb t n))], S2, .inl ?_, rfl, L ++ [madeN tb t n], _, _, rfl, sL.snoc (madeN_ok (m := m) hT.2 t n) q2, fun r hr => ?_⟩
                · unfold B_more
                  simp only [ev_bind, ev_nox, ev_seq, ev_set, ev_setOwn, ev_share, ev_drop, ev_ret, ev_retOwn, ev_skip, ev_brk, ev_cnt, ev_ifS, ev_frzS, ev_append, ev_setIx, ev_for, ev_lc, ev_seqOf, ev_range, ev_var, ev_c, ev_op, ev_un, ev_args, ev_nil, ev_cons, ev_frz, ev_b, ev_and, ev_or, ev_not, ev_andV, ev_orV, ev_notV, ev_if, ev_chain, ev_isi, ev_ixOwn, ev_lenOwn, ev_call, ev_callK, ev_sl, ev_part, ev_true, ev_nm, ev_toB, frz, frzAt, toSeq_tup, toSeq_lst, toSeq_cl, toRet, mWipe, kbG, Mir.gTup, Mir.gLst, List.getElem?_cons_zero, List.getElem?_cons_succ, List.set_cons_zero, List.set_cons_succ, List.length_cons, List.length_nil, List.append_nil, List.nil_append, List.cons_append, Nat.reduceAdd, Nat.reduceLeDiff, Nat.reduceEqDiff, Nat.zero_add, reduceIte, Bool.false_eq_true, Bool.not_true, Bool.not_false, and_self, sizeM_eq, ev_inOwn, mk, i1, i2, decide_eq_false q1, decide_eq_false q2, List.length_map, zl, List.map_append, List.map_cons, List.map_nil]
                · rcases List.mem_append.mp hr with z | z
                  · exact hd r z
                  · rw [List.mem_singleton.mp z]; exact q1) [.val (.tup (rs.map rowP)), .val (rowP tb), .val (.int m), .val (.lst (K.map rowP)), .val x, .own (.lst []), s6, s7] S' ⟨rfl, [], _, _, rfl, some_nil, fun _ m => nomatch m⟩
        have fewL := sL.few n4
        have ll : ∀ S, gLen [.lst (L.map rowP)] S = .ok (.int L.length) S := fun S => by simp only [gLen, List.length_map]
        by_cases q0 : L.length = 0
        · refine ⟨.bk [.val (.tup (rs.map rowP)), .val (rowP tb), .val (.int m), .val (.lst (K.map rowP)), .val x, .val (.lst (L.map rowP)), u6, u7], S2, ?_, rfl, K, _, _, _, _, rfl, sK, K0⟩
          unfold B_clo
          simp only [ev_bind, ev_nox, ev_seq, ev_set, ev_setOwn, ev_share, ev_drop, ev_ret, ev_retOwn, ev_skip, ev_brk, ev_cnt, ev_ifS, ev_frzS, ev_append, ev_setIx, ev_for, ev_lc, ev_seqOf, ev_range, ev_var, ev_c, ev_op, ev_un, ev_args, ev_nil, ev_cons, ev_frz, ev_b, ev_and, ev_or, ev_not, ev_andV, ev_orV, ev_notV, ev_if, ev_chain, ev_isi, ev_ixOwn, ev_lenOwn, ev_call, ev_callK, ev_sl, ev_part, ev_true, ev_nm, ev_toB, frz, frzAt, toSeq_tup, toSeq_lst, toSeq_cl, toRet, mWipe, kbG, Mir.gTup, Mir.gLst, List.getElem?_cons_zero, List.getElem?_cons_succ, List.set_cons_zero, List.set_cons_succ, List.length_cons, List.length_nil, List.append_nil, List.nil_append, List.cons_append, Nat.reduceAdd, Nat.reduceLeDiff, Nat.reduceEqDiff, Nat.zero_add, reduceIte, Bool.false_eq_true, Bool.not_true, Bool.not_false, and_self, sizeM_eq, lk, gGt, c8, tu, e2, ll, eqD_int, show decide ((L.length : Int) = 0) = true from decide_eq_true (by omega)]
        · have zk : K.length + L.length ≤ 100000 := by omega
          refine ⟨.nx [.val (.tup (rs.map rowP)), .val (rowP tb), .val (.int m), .val (.lst ((K ++ L).map rowP)), .val x, .val (.lst (L.map rowP)), u6, u7], S2, ?_, rfl, K ++ L, _, _, _, _, rfl, append_some sK sL hd, by simp [K0]⟩
          unfold B_clo
          simp only [ev_bind, ev_nox, ev_seq, ev_set, ev_setOwn, ev_share, ev_drop, ev_ret, ev_retOwn, ev_skip, ev_brk, ev_cnt, ev_ifS, ev_frzS, ev_append, ev_setIx, ev_for, ev_lc, ev_seqOf, ev_range, ev_var, ev_c, ev_op, ev_un, ev_args, ev_nil, ev_cons, ev_frz, ev_b, ev_and, ev_or, ev_not, ev_andV, ev_orV, ev_notV, ev_if, ev_chain, ev_isi, ev_ixOwn, ev_lenOwn, ev_call, ev_callK, ev_sl, ev_part, ev_true, ev_nm, ev_toB, frz, frzAt, toSeq_tup, toSeq_lst, toSeq_cl, toRet, mWipe, kbG, Mir.gTup, Mir.gLst, List.getElem?_cons_zero, List.getElem?_cons_succ, List.set_cons_zero, List.set_cons_succ, List.length_cons, List.length_nil, List.append_nil, List.nil_append, List.cons_append, Nat.reduceAdd, Nat.reduceLeDiff, Nat.reduceEqDiff, Nat.zero_add, reduceIte, Bool.false_eq_true, Bool.not_true, Bool.not_false, and_self, sizeM_eq, lk, gGt, c8, tu, e2, ll, eqD_int, show decide ((L.length : Int) = 0) = false from decide_eq_false (by omega), gAddA, gAdd, List.length_map, zk, List.map_append]) [.val (.tup (rs.map rowP)), .val (rowP tb), .val (.int m), .val (.lst (rs.map rowP)), .none, .none, .none, .none] S ⟨rfl, rs, _, _, _, _, rfl, hR.some, hR.ne⟩
  have r16 : ∀ S, gRange1 [.int 16] S = .ok (rng 16) S := fun S => rngN (n := 16) (by decide) S
  have red : Mq__law_closed [.tup (rs.map rowP), rowP tb] S = (Bq__law_closed [.val (.tup (rs.map rowP)), .val (rowP tb), .none, .none, .none, .none, .none, .none] S).bind toRet := rfl
  unfold B_clo B_more at e
  rcases ho with ⟨ρ', rfl, rfl, K, s4, s5, s6, s7, rfl, sK, K0⟩ | ⟨v, rfl, rfl, rfl⟩
  · refine ⟨sortR 1000000 K, ?_, sort_rl n1 n4 sK K0⟩
    rw [red]
    unfold Bq__law_closed
    simp only [ev_bind, ev_nox, ev_seq, ev_set, ev_setOwn, ev_share, ev_drop, ev_ret, ev_retOwn, ev_skip, ev_brk, ev_cnt, ev_ifS, ev_frzS, ev_append, ev_setIx, ev_for, ev_lc, ev_seqOf, ev_range, ev_var, ev_c, ev_op, ev_un, ev_args, ev_nil, ev_cons, ev_frz, ev_b, ev_and, ev_or, ev_not, ev_andV, ev_orV, ev_notV, ev_if, ev_chain, ev_isi, ev_ixOwn, ev_lenOwn, ev_call, ev_callK, ev_sl, ev_part, ev_true, ev_nm, ev_toB, frz, frzAt, toSeq_tup, toSeq_lst, toSeq_cl, toRet, mWipe, kbG, Mir.gTup, Mir.gLst, List.getElem?_cons_zero, List.getElem?_cons_succ, List.set_cons_zero, List.set_cons_succ, List.length_cons, List.length_nil, List.append_nil, List.nil_append, List.cons_append, Nat.reduceAdd, Nat.reduceLeDiff, Nat.reduceEqDiff, Nat.zero_add, reduceIte, Bool.false_eq_true, Bool.not_true, Bool.not_false, and_self, sizeM_eq, po, gList, r16, e, sortL_ok n1 n4 sK, gTuple]
  · refine ⟨rs, ?_, hR⟩
    rw [red]
    unfold Bq__law_closed
    simp only [ev_bind, ev_nox, ev_seq, ev_set, ev_setOwn, ev_share, ev_drop, ev_ret, ev_retOwn, ev_skip, ev_brk, ev_cnt, ev_ifS, ev_frzS, ev_append, ev_setIx, ev_for, ev_lc, ev_seqOf, ev_range, ev_var, ev_c, ev_op, ev_un, ev_args, ev_nil, ev_cons, ev_frz, ev_b, ev_and, ev_or, ev_not, ev_andV, ev_orV, ev_notV, ev_if, ev_chain, ev_isi, ev_ixOwn, ev_lenOwn, ev_call, ev_callK, ev_sl, ev_part, ev_true, ev_nm, ev_toB, frz, frzAt, toSeq_tup, toSeq_lst, toSeq_cl, toRet, mWipe, kbG, Mir.gTup, Mir.gLst, List.getElem?_cons_zero, List.getElem?_cons_succ, List.set_cons_zero, List.set_cons_succ, List.length_cons, List.length_nil, List.append_nil, List.nil_append, List.cons_append, Nat.reduceAdd, Nat.reduceLeDiff, Nat.reduceEqDiff, Nat.zero_add, reduceIte, Bool.false_eq_true, Bool.not_true, Bool.not_false, and_self, sizeM_eq, po, gList, r16, e]
end Mir
set_option maxHeartbeats 4000000
/-! MirP5: the six deeds, drawn tables, drawn books. -/
namespace Mir
open PySem L2
def sixL : List (Str × List Int) := [("all no", [0, 0]), ("all yes", [1, 1]), ("and", [0, 0, 0, 1]), ("or", [0, 1, 1, 1]), ("majority", [0, 0, 0, 1, 0, 1, 1, 1]), ("odd one", [0, 1, 1, 0, 1, 0, 0, 1])]
def sixV (p : Str × List Int) : PV := .tup [.str p.1, rowP p.2]
theorem six_ok (S : Store) : Mq__law_six [] S = .ok (.lst (sixL.map sixV)) S := by kernel_rfl
theorem bits_by {r : List Int} (h : (r.all fun b => decide (b = 0) || decide (b = 1)) = true) : Bits r := fun b hb => by
  have := List.all_eq_true.mp h b hb
  simpa using this
theorem six_tab {p : Str × List Int} (h : p ∈ sixL) : ∃ m, 1 ≤ m ∧ m ≤ 3 ∧ TabM m p.2 := by
  unfold sixL at h
  simp only [List.mem_cons, List.not_mem_nil, or_false] at h
  rcases h with rfl | rfl | rfl | rfl | rfl | rfl
  · exact ⟨1, by decide, by decide, rfl, bits_by (by decide)⟩
  · exact ⟨1, by decide, by decide, rfl, bits_by (by decide)⟩
  · exact ⟨2, by decide, by decide, rfl, bits_by (by decide)⟩
  · exact ⟨2, by decide, by decide, rfl, bits_by (by decide)⟩
  · exact ⟨3, by decide, by decide, rfl, bits_by (by decide)⟩
  · exact ⟨3, by decide, by decide, rfl, bits_by (by decide)⟩
def fits : Nat → List (List Int)
  | 1 => [[0, 0], [1, 1]]
  | 2 => [[0, 0, 0, 1], [0, 1, 1, 1]]
  | 3 => [[0, 0, 0, 1, 0, 1, 1, 1], [0, 1, 1, 0, 1, 0, 0, 1]]
  | _ => []
theorem fits_tab {m : Nat} {r : List Int} (h : r ∈ fits m) : TabM m r := by
  match m, h with
  | 1, h =>
    simp only [fits, List.mem_cons, List.not_mem_nil, or_false] at h
    rcases h with rfl | rfl
    · exact ⟨rfl, bits_by (by decide)⟩
    · exact ⟨rfl, bits_by (by decide)⟩
  | 2, h =>
    simp only [fits, List.mem_cons, List.not_mem_nil, or_false] at h
    rcases h with rfl | rfl
    · exact ⟨rfl, bits_by (by decide)⟩
    · exact ⟨rfl, bits_by (by decide)⟩
  | 3, h =>
    simp only [fits, List.mem_cons, List.not_mem_nil, or_false] at h
    rcases h with rfl | rfl
    · exact ⟨rfl, bits_by (by decide)⟩
    · exact ⟨rfl, bits_by (by decide)⟩
  | 0, h => exact nomatch h
  | _ + 4, h => exact nomatch h
theorem fit_lc {m : Nat} (h1 : 1 ≤ m) (h4 : m ≤ 4) (u : PV) (S : Store) : mLcGo (gTupM 2 (gsCons (gNm 5) (gsCons (gNm 6) gsNil))) (mB (mOp (gEqD false) (mArgs gLen (mCons (mVar 6) mNil)) (mOp gShl (mC (.int 1)) (mVar 1)))) (mVar 6) [.val (.obj 0), .val (.int m), .val u, .none, .none, .none, .none, .none] (sixL.map sixV) S = .ok ((fits m).map rowP) S := by
  match m, h1, h4 with
  | 1, _, _ => kernel_rfl
  | 2, _, _ => kernel_rfl
  | 3, _, _ => kernel_rfl
  | 4, _, _ => kernel_rfl
theorem table_drawn {S R : Store} (h : Hand S R) {m : Nat} (h1 : 1 ≤ m) (h4 : m ≤ 4) : ∃ (tb : List Int) (S' : Store), Mq__law_drawn_table [.obj 0, .int m] S = .ok (rowP tb) S' ∧ Hand S' R ∧ TabM m tb := by
  have ev : ∀ S, Mq__law_every [.int m] S = .ok (.lst ((rowsE m).map rowP)) S := fun S => every_ok (by omega) S
  obtain ⟨u, S1, e1, g1, u0, u1⟩ := takeq (many := 4) h (by decide)
  have lc := fun S => fit_lc h1 h4 (.int u) S
  have l6 : (6 : Nat) ≤ 100000 := by decide
  have el := rowsE_len m
  have ep : 2 ^ m ≤ 2 ^ 4 := Nat.pow_le_pow_right (by decide) h4
  have zl : (rowsE m).length ≤ 100000 := by omega
  have red : Mq__law_drawn_table [.obj 0, .int m] S = (Bq__law_drawn_table [.val (.obj 0), .val (.int m), .none, .none, .none, .none, .none, .none] S).bind toRet := rfl
  have s6 : (sixL.map sixV).length = 6 := rfl
  have rest : ¬(u = 0 ∧ 0 < (fits m).length) → ∃ (tb : List Int) (S' : Store), Mq__law_drawn_table [.obj 0, .int m] S = .ok (rowP tb) S' ∧ Hand S' R ∧ TabM m tb := fun no => by
    have c : (decide (u = 0) && decide ((0 : Int) < (fits m).length)) = false := by
      cases q : (decide (u = 0) && decide ((0 : Int) < (fits m).length)) with
      | false => rfl
      | true =>
        simp only [Bool.and_eq_true, decide_eq_true_eq] at q
        exact absurd ⟨q.1, by omega⟩ no
    by_cases q1 : u = 1
    · subst q1
      obtain ⟨w, S2, e2, g2, w0, w1⟩ := takeq (many := (m : Int)) g1 (by omega)
      obtain ⟨k, rfl, hk⟩ := nat_of w0 w1
      obtain ⟨r, er, rl, rb⟩ := lc_bits (g := gNm 7) (t := mTrue) (a := mArgs gInt (mCons (mOp (gEqD true) (mOp gIx (mVar 7) (mVar 4)) (mC (.int 0))) mNil)) (ρ := [.val (.obj 0), .val (.int m), .val (.int 1), .val (.lst ((fits m).map rowP)), .val (.int k), .none, .none, .none]) (xs := (rowsE m).map rowP) (S := S2) (fun x hx => by
        obtain ⟨r, hr, rfl⟩ := List.mem_map.mp hx
        have ix := ix_row (S := S2) (r := r) (k := k) (by rw [(rowsE_mem hr).1]; exact hk)
        refine ⟨_, if (!decide (r.getD k 0 = 0)) = true then 1 else 0, rfl, rfl, ?_, ?_⟩
        · simp only [ev_bind, ev_nox, ev_seq, ev_set, ev_setOwn, ev_share, ev_drop, ev_ret, ev_retOwn, ev_skip, ev_brk, ev_cnt, ev_ifS, ev_frzS, ev_append, ev_setIx, ev_for, ev_lc, ev_seqOf, ev_range, ev_var, ev_c, ev_op, ev_un, ev_args, ev_nil, ev_cons, ev_frz, ev_b, ev_and, ev_or, ev_not, ev_andV, ev_orV, ev_notV, ev_if, ev_chain, ev_isi, ev_ixOwn, ev_lenOwn, ev_call, ev_callK, ev_sl, ev_part, ev_true, ev_nm, ev_toB, frz, frzAt, toSeq_tup, toSeq_lst, toSeq_cl, toRet, mWipe, kbG, Mir.gTup, Mir.gLst, List.getElem?_cons_zero, List.getElem?_cons_succ, List.set_cons_zero, List.set_cons_succ, List.length_cons, List.length_nil, List.append_nil, List.nil_append, List.cons_append, Nat.reduceAdd, Nat.reduceLeDiff, Nat.reduceEqDiff, Nat.zero_add, reduceIte, Bool.false_eq_true, Bool.not_true, Bool.not_false, and_self, sizeM_eq, ix, neD_int, gInt]
        · cases decide (r.getD k 0 = 0)
          · exact .inr rfl
          · exact .inl rfl)
      refine ⟨r, S2, ?_, g2, by rw [rl, List.length_map, el], rb⟩
      rw [red]
      unfold Bq__law_drawn_table
      simp only [ev_bind, ev_nox, ev_seq, ev_set, ev_setOwn, ev_share, ev_drop, ev_ret, ev_retOwn, ev_skip, ev_brk, ev_cnt, ev_ifS, ev_frzS, ev_append, ev_setIx, ev_for, ev_lc, ev_seqOf, ev_range, ev_var, ev_c, ev_op, ev_un, ev_args, ev_nil, ev_cons, ev_frz, ev_b, ev_and, ev_or, ev_not, ev_andV, ev_orV, ev_notV, ev_if, ev_chain, ev_isi, ev_ixOwn, ev_lenOwn, ev_call, ev_callK, ev_sl, ev_part, ev_true, ev_nm, ev_toB, frz, frzAt, toSeq_tup, toSeq_lst, toSeq_cl, toRet, mWipe, kbG, Mir.gTup, Mir.gLst, List.getElem?_cons_zero, List.getElem?_cons_succ, List.set_cons_zero, List.set_cons_succ, List.length_cons, List.length_nil, List.append_nil, List.nil_append, List.cons_append, Nat.reduceAdd, Nat.reduceLeDiff, Nat.reduceEqDiff, Nat.zero_add, reduceIte, Bool.false_eq_true, Bool.not_true, Bool.not_false, and_self, sizeM_eq, e1, six_ok, s6, l6, lc, eqD_int, show decide ((1 : Int) = 0) = false from rfl, decide_true, e2, ev, List.length_map, zl, er, gTuple]
      rfl
    · obtain ⟨bs, S2, er, g2, bl, bb⟩ := lc_make (g := gNm 7) (t := mTrue) (a := mCall 2 Mq__law_take [] (mCons (mVar 0) (mCons (mC (.int 2)) mNil))) (ρ := [.val (.obj 0), .val (.int m), .val (.int u), .val (.lst ((fits m).map rowP)), .none, .none, .none, .none]) rowP PV.int (fun S => Hand S R) (fun b => b = 0 ∨ b = 1) (ps := rowsE m) (fun r _ S hS => by
        obtain ⟨v, S', e, g, v0, v1⟩ := takeq (many := 2) hS (by decide)
        refine ⟨_, v, S', rfl, rfl, ?_, g, by omega⟩
        simp only [ev_bind, ev_nox, ev_seq, ev_set, ev_setOwn, ev_share, ev_drop, ev_ret, ev_retOwn, ev_skip, ev_brk, ev_cnt, ev_ifS, ev_frzS, ev_append, ev_setIx, ev_for, ev_lc, ev_seqOf, ev_range, ev_var, ev_c, ev_op, ev_un, ev_args, ev_nil, ev_cons, ev_frz, ev_b, ev_and, ev_or, ev_not, ev_andV, ev_orV, ev_notV, ev_if, ev_chain, ev_isi, ev_ixOwn, ev_lenOwn, ev_call, ev_callK, ev_sl, ev_part, ev_true, ev_nm, ev_toB, frz, frzAt, toSeq_tup, toSeq_lst, toSeq_cl, toRet, mWipe, kbG, Mir.gTup, Mir.gLst, List.getElem?_cons_zero, List.getElem?_cons_succ, List.set_cons_zero, List.set_cons_succ, List.length_cons, List.length_nil, List.append_nil, List.nil_append, List.cons_append, Nat.reduceAdd, Nat.reduceLeDiff, Nat.reduceEqDiff, Nat.zero_add, reduceIte, Bool.false_eq_true, Bool.not_true, Bool.not_false, and_self, sizeM_eq, e]) S1 g1
      refine ⟨bs, S2, ?_, g2, by rw [bl, el], bb⟩
      rw [red]
      unfold Bq__law_drawn_table
      by_cases q0 : u = 0
      · have c' : decide ((0 : Int) < (fits m).length) = false := by
          rw [decide_eq_true q0, Bool.true_and] at c
          exact c
        have e1' := e1
        simp only [ev_bind, ev_nox, ev_seq, ev_set, ev_setOwn, ev_share, ev_drop, ev_ret, ev_retOwn, ev_skip, ev_brk, ev_cnt, ev_ifS, ev_frzS, ev_append, ev_setIx, ev_for, ev_lc, ev_seqOf, ev_range, ev_var, ev_c, ev_op, ev_un, ev_args, ev_nil, ev_cons, ev_frz, ev_b, ev_and, ev_or, ev_not, ev_andV, ev_orV, ev_notV, ev_if, ev_chain, ev_isi, ev_ixOwn, ev_lenOwn, ev_call, ev_callK, ev_sl, ev_part, ev_true, ev_nm, ev_toB, frz, frzAt, toSeq_tup, toSeq_lst, toSeq_cl, toRet, mWipe, kbG, Mir.gTup, Mir.gLst, List.getElem?_cons_zero, List.getElem?_cons_succ, List.set_cons_zero, List.set_cons_succ, List.length_cons, List.length_nil, List.append_nil, List.nil_append, List.cons_append, Nat.reduceAdd, Nat.reduceLeDiff, Nat.reduceEqDiff, Nat.zero_add, reduceIte, Bool.false_eq_true, Bool.not_true, Bool.not_false, and_self, sizeM_eq, e1, six_ok, s6, l6, lc, eqD_int, decide_eq_true q0, gGt, gLen, List.length_map, c', decide_eq_false q1, ev, zl, er, gTuple]
        rfl
      · simp only [ev_bind, ev_nox, ev_seq, ev_set, ev_setOwn, ev_share, ev_drop, ev_ret, ev_retOwn, ev_skip, ev_brk, ev_cnt, ev_ifS, ev_frzS, ev_append, ev_setIx, ev_for, ev_lc, ev_seqOf, ev_range, ev_var, ev_c, ev_op, ev_un, ev_args, ev_nil, ev_cons, ev_frz, ev_b, ev_and, ev_or, ev_not, ev_andV, ev_orV, ev_notV, ev_if, ev_chain, ev_isi, ev_ixOwn, ev_lenOwn, ev_call, ev_callK, ev_sl, ev_part, ev_true, ev_nm, ev_toB, frz, frzAt, toSeq_tup, toSeq_lst, toSeq_cl, toRet, mWipe, kbG, Mir.gTup, Mir.gLst, List.getElem?_cons_zero, List.getElem?_cons_succ, List.set_cons_zero, List.set_cons_succ, List.length_cons, List.length_nil, List.append_nil, List.nil_append, List.cons_append, Nat.reduceAdd, Nat.reduceLeDiff, Nat.reduceEqDiff, Nat.zero_add, reduceIte, Bool.false_eq_true, Bool.not_true, Bool.not_false, and_self, sizeM_eq, e1, six_ok, s6, l6, lc, eqD_int, decide_eq_false q0, decide_eq_false q1, ev, List.length_map, zl, er, gTuple]
        rfl
  by_cases q : u = 0 ∧ 0 < (fits m).length
  · obtain ⟨rfl, qf⟩ := q
    obtain ⟨w, S2, e2, g2, w0, w1⟩ := takeq (many := ((fits m).length : Int)) g1 (by omega)
    obtain ⟨y, ey, hy⟩ := at_mem (xs := (fits m).map rowP) w0 (by rw [List.length_map]; exact w1)
    obtain ⟨r, hr, rfl⟩ := List.mem_map.mp hy
    refine ⟨r, S2, ?_, g2, fits_tab hr⟩
    rw [red]
    unfold Bq__law_drawn_table
    simp only [ev_bind, ev_nox, ev_seq, ev_set, ev_setOwn, ev_share, ev_drop, ev_ret, ev_retOwn, ev_skip, ev_brk, ev_cnt, ev_ifS, ev_frzS, ev_append, ev_setIx, ev_for, ev_lc, ev_seqOf, ev_range, ev_var, ev_c, ev_op, ev_un, ev_args, ev_nil, ev_cons, ev_frz, ev_b, ev_and, ev_or, ev_not, ev_andV, ev_orV, ev_notV, ev_if, ev_chain, ev_isi, ev_ixOwn, ev_lenOwn, ev_call, ev_callK, ev_sl, ev_part, ev_true, ev_nm, ev_toB, frz, frzAt, toSeq_tup, toSeq_lst, toSeq_cl, toRet, mWipe, kbG, Mir.gTup, Mir.gLst, List.getElem?_cons_zero, List.getElem?_cons_succ, List.set_cons_zero, List.set_cons_succ, List.length_cons, List.length_nil, List.append_nil, List.nil_append, List.cons_append, Nat.reduceAdd, Nat.reduceLeDiff, Nat.reduceEqDiff, Nat.zero_add, reduceIte, Bool.false_eq_true, Bool.not_true, Bool.not_false, and_self, sizeM_eq, e1, six_ok, s6, l6, lc, eqD_int, decide_true, gGt, gLen, List.length_map, show decide ((0 : Int) < (fits m).length) = true from decide_eq_true (by omega), e2, ix_l, ey]
  · exact rest q
/-! ### books -/
def B_dbk : Rho → Store → Res Out := (mSeq (mSet 3 (mOp gIx (mFrz (mArgs Mir.gLst (mCons (mC (.int 1)) (mCons (mC (.int 2)) (mCons (mC (.int 2)) (mCons (mC (.int 3)) (mCons (mC (.int 3)) (mCons (mC (.int 4)) mNil)))))))) (mCall 2 Mq__law_take [] (mCons (mVar 0) (mCons (mC (.int 6)) mNil)))))
    (mSeq (mSet 4 (mCall 3 Mq__law_rows [] (mCons (mVar 0) (mCons (mVar 3) (mCons (mOp gIx (mFrz (mArgs Mir.gLst (mCons (mC (.int 2)) (mCons (mC (.int 4)) (mCons (mC (.int 7)) mNil))))) (mCall 2 Mq__law_take [] (mCons (mVar 0) (mCons (mC (.int 3)) mNil)))) mNil)))))
    (mSeq (mIfS (mB (mOp (gEqD false) (mCall 2 Mq__law_take [] (mCons (mVar 0) (mCons (mC (.int 2)) mNil))) (mC (.int 0))))
    (mSet 4 (mCall 2 Mq__law_closed [] (mCons (mVar 4) (mCons (mOp gIx (mOp gIx (mCall 0 Mq__law_six [] mNil) (mCall 2 Mq__law_take [] (mCons (mVar 0) (mCons (mC (.int 6)) mNil)))) (mC (.int 1))) mNil))))
    mSkip)
    (mAppend 1 (mArgs Mir.gTup (mCons (mVar 3) (mCons (mVar 4) mNil)))))))
theorem small_of {xs : List Int} {lo hi : Int} {v : Int} (h : ∀ x ∈ xs, lo ≤ x ∧ x ≤ hi) (hl : 0 ≤ lo) {y : PV} (hy : y ∈ xs.map PV.int) : ∃ k : Nat, y = .int k ∧ lo ≤ k ∧ (k : Int) ≤ hi := by
  obtain ⟨x, hx, rfl⟩ := List.mem_map.mp hy
  have := h x hx
  exact ⟨x.toNat, by rw [Int.toNat_of_nonneg (by omega)], by omega, by omega⟩
theorem dbk_step {S R : Store} (h : Hand S R) {rels : List Rl} (ok : ∀ p ∈ rels, RlOk p.1 p.2) (hl : rels.length ≤ 1000) (s2 s3 s4 : Slot) : ∃ (p : Rl) (u3 u4 : Slot) (S' : Store), B_dbk [.val (.obj 0), .own (.lst (rels.map plP)), s2, s3, s4] S = .ok (.nx [.val (.obj 0), .own (.lst ((rels ++ [p]).map plP)), s2, u3, u4]) S' ∧ Hand S' R ∧ RlOk p.1 p.2 := by
  obtain ⟨u, S1, e1, g1, u0, u1⟩ := takeq (many := 6) h (by decide)
  obtain ⟨y, ey, hy⟩ := at_mem (xs := [PV.int 1, .int 2, .int 2, .int 3, .int 3, .int 4]) u0 u1
  obtain ⟨n, rfl, n1, n4⟩ := small_of (xs := [1, 2, 2, 3, 3, 4]) (lo := 1) (hi := 4) (v := 0) (by decide) (by decide) hy
  obtain ⟨w, S2, e2, g2, w0, w1⟩ := takeq (many := 3) g1 (by decide)
  obtain ⟨z, ez, hz⟩ := at_mem (xs := [PV.int 2, .int 4, .int 7]) w0 w1
  obtain ⟨k, rfl, k1, k4⟩ := small_of (xs := [2, 4, 7]) (lo := 2) (hi := 7) (v := 0) (by decide) (by decide) hz
  obtain ⟨rs, S3, e3, g3, hR⟩ := rows_drawn g2 (n := n) (by omega) (by omega) (most := k) (by omega) (by omega)
  obtain ⟨t, S4, e4, g4, t0, t1⟩ := takeq (many := 2) g3 (by decide)
  have zl : rels.length < 100000 := by omega
  by_cases q : t = 0
  · obtain ⟨c, S5, e5, g5, c0, c1⟩ := takeq (many := 6) g4 (by decide)
    obtain ⟨p, ep, hp⟩ := at_mem (xs := sixL.map sixV) c0 c1
    obtain ⟨d, hd, rfl⟩ := List.mem_map.mp hp
    obtain ⟨m, m1, m3, hT⟩ := six_tab hd
    obtain ⟨rs', e6, hR'⟩ := closed_ok hR m1 m3 hT S5
    have i1 : ∀ S, gIx (sixV d) (.int 1) S = .ok (rowP d.2) S := fun _ => rfl
    refine ⟨(n, rs'), .val (.int n), .val (.tup (rs'.map rowP)), S5, ?_, g5, hR'⟩
    unfold B_dbk
    simp only [ev_bind, ev_nox, ev_seq, ev_set, ev_setOwn, ev_share, ev_drop, ev_ret, ev_retOwn, ev_skip, ev_brk, ev_cnt, ev_ifS, ev_frzS, ev_append, ev_setIx, ev_for, ev_lc, ev_seqOf, ev_range, ev_var, ev_c, ev_op, ev_un, ev_args, ev_nil, ev_cons, ev_frz, ev_b, ev_and, ev_or, ev_not, ev_andV, ev_orV, ev_notV, ev_if, ev_chain, ev_isi, ev_ixOwn, ev_lenOwn, ev_call, ev_callK, ev_sl, ev_part, ev_true, ev_nm, ev_toB, frz, frzAt, toSeq_tup, toSeq_lst, toSeq_cl, toRet, mWipe, kbG, Mir.gTup, Mir.gLst, List.getElem?_cons_zero, List.getElem?_cons_succ, List.set_cons_zero, List.set_cons_succ, List.length_cons, List.length_nil, List.append_nil, List.nil_append, List.cons_append, Nat.reduceAdd, Nat.reduceLeDiff, Nat.reduceEqDiff, Nat.zero_add, reduceIte, Bool.false_eq_true, Bool.not_true, Bool.not_false, and_self, sizeM_eq, e1, ix_l, ey, e2, ez, e3, e4, eqD_int, decide_eq_true q, six_ok, e5, ep, i1, e6, List.length_map, zl, List.map_append, List.map_cons, List.map_nil]
    rfl
  · refine ⟨(n, rs), .val (.int n), .val (.tup (rs.map rowP)), S4, ?_, g4, hR⟩
    unfold B_dbk
    simp only [ev_bind, ev_nox, ev_seq, ev_set, ev_setOwn, ev_share, ev_drop, ev_ret, ev_retOwn, ev_skip, ev_brk, ev_cnt, ev_ifS, ev_frzS, ev_append, ev_setIx, ev_for, ev_lc, ev_seqOf, ev_range, ev_var, ev_c, ev_op, ev_un, ev_args, ev_nil, ev_cons, ev_frz, ev_b, ev_and, ev_or, ev_not, ev_andV, ev_orV, ev_notV, ev_if, ev_chain, ev_isi, ev_ixOwn, ev_lenOwn, ev_call, ev_callK, ev_sl, ev_part, ev_true, ev_nm, ev_toB, frz, frzAt, toSeq_tup, toSeq_lst, toSeq_cl, toRet, mWipe, kbG, Mir.gTup, Mir.gLst, List.getElem?_cons_zero, List.getElem?_cons_succ, List.set_cons_zero, List.set_cons_succ, List.length_cons, List.length_nil, List.append_nil, List.nil_append, List.cons_append, Nat.reduceAdd, Nat.reduceLeDiff, Nat.reduceEqDiff, Nat.zero_add, reduceIte, Bool.false_eq_true, Bool.not_true, Bool.not_false, and_self, sizeM_eq, e1, ix_l, ey, e2, ez, e3, e4, eqD_int, decide_eq_false q, List.length_map, zl, List.map_append, List.map_cons, List.map_nil]
    rfl
theorem drawn_book {S R : Store} (h : Hand S R) : ∃ (rels : List Rl) (S' : Store), Mq__law_drawn_book [.obj 0] S = .ok (.lst (rels.map plP)) S' ∧ Hand S' R ∧ BkOk rels ∧ rels.length ≤ 3 := by
  obtain ⟨u, S1, e1, g1, u0, u1⟩ := takeq (many := 6) h (by decide)
  obtain ⟨y, ey, hy⟩ := at_mem (xs := [PV.int 1, .int 1, .int 1, .int 2, .int 2, .int 3]) u0 u1
  obtain ⟨k, rfl, k1, k3⟩ := small_of (xs := [1, 1, 1, 2, 2, 3]) (lo := 1) (hi := 3) (v := 0) (by decide) (by decide) hy
  obtain ⟨ρ', S2, e2, g2, rels, s2, s3, s4, rfl, ok, hl⟩ := for_inv (g := gNm 2) (b := B_dbk) (xs := rng k)
    (fun pre ρ S' => Hand S' R ∧ ∃ rels s2 s3 s4, ρ = [.val (.obj 0), .own (.lst (rels.map plP)), s2, s3, s4] ∧ (∀ p ∈ rels, RlOk p.1 p.2) ∧ rels.length = pre.length) (by
      rintro pre x post ρ S' ex ⟨g, rels, s2, s3, s4, rfl, ok, hl⟩
      have hpl : pre.length ≤ k := by
        have := congrArg List.length ex
        rw [rngN_len, List.length_append] at this
        omega
      obtain ⟨p, u3, u4, S3, e3, g3, hp⟩ := dbk_step g ok (by omega) (.val x) s3 s4
      refine ⟨_, S3, .inl ?_, g3, rels ++ [p], .val x, u3, u4, rfl, fun q hq => ?_, by simp [hl]⟩
      · simp only [ev_bind, ev_nox, ev_seq, ev_set, ev_setOwn, ev_share, ev_drop, ev_ret, ev_retOwn, ev_skip, ev_brk, ev_cnt, ev_ifS, ev_frzS, ev_append, ev_setIx, ev_for, ev_lc, ev_seqOf, ev_range, ev_var, ev_c, ev_op, ev_un, ev_args, ev_nil, ev_cons, ev_frz, ev_b, ev_and, ev_or, ev_not, ev_andV, ev_orV, ev_notV, ev_if, ev_chain, ev_isi, ev_ixOwn, ev_lenOwn, ev_call, ev_callK, ev_sl, ev_part, ev_true, ev_nm, ev_toB, frz, frzAt, toSeq_tup, toSeq_lst, toSeq_cl, toRet, mWipe, kbG, Mir.gTup, Mir.gLst, List.getElem?_cons_zero, List.getElem?_cons_succ, List.set_cons_zero, List.set_cons_succ, List.length_cons, List.length_nil, List.append_nil, List.nil_append, List.cons_append, Nat.reduceAdd, Nat.reduceLeDiff, Nat.reduceEqDiff, Nat.zero_add, reduceIte, Bool.false_eq_true, Bool.not_true, Bool.not_false, and_self, sizeM_eq, e3]
      · rcases List.mem_append.mp hq with z | z
        · exact ok q z
        · rw [List.mem_singleton.mp z]; exact hp) [.val (.obj 0), .own (.lst []), .none, .none, .none] S1 ⟨g1, [], _, _, _, rfl, (fun _ m => by cases m), rfl⟩
  rw [rngN_len] at hl
  refine ⟨rels, S2, ?_, g2, ⟨ok, by omega, by omega⟩, by omega⟩
  show (Bq__law_drawn_book [.val (.obj 0), .none, .none, .none, .none] S).bind toRet = _
  unfold B_dbk at e2
  unfold Bq__law_drawn_book
  simp only [ev_bind, ev_nox, ev_seq, ev_set, ev_setOwn, ev_share, ev_drop, ev_ret, ev_retOwn, ev_skip, ev_brk, ev_cnt, ev_ifS, ev_frzS, ev_append, ev_setIx, ev_for, ev_lc, ev_seqOf, ev_range, ev_var, ev_c, ev_op, ev_un, ev_args, ev_nil, ev_cons, ev_frz, ev_b, ev_and, ev_or, ev_not, ev_andV, ev_orV, ev_notV, ev_if, ev_chain, ev_isi, ev_ixOwn, ev_lenOwn, ev_call, ev_callK, ev_sl, ev_part, ev_true, ev_nm, ev_toB, frz, frzAt, toSeq_tup, toSeq_lst, toSeq_cl, toRet, mWipe, kbG, Mir.gTup, Mir.gLst, List.getElem?_cons_zero, List.getElem?_cons_succ, List.set_cons_zero, List.set_cons_succ, List.length_cons, List.length_nil, List.append_nil, List.nil_append, List.cons_append, Nat.reduceAdd, Nat.reduceLeDiff, Nat.reduceEqDiff, Nat.zero_add, reduceIte, Bool.false_eq_true, Bool.not_true, Bool.not_false, and_self, sizeM_eq, e1, ix_l, ey, rngN (show k ≤ 100000 by omega), e2]
end Mir
set_option maxHeartbeats 4000000
/-! MirP6: relations of rows in any order; texts of breaks; data by computing. -/
namespace Mir
open PySem L2
theorem dedup_go : ∀ (L A : List (List Int)), A.Nodup → (L.foldl addR A).Nodup ∧ ∀ r, r ∈ L.foldl addR A ↔ r ∈ A ∨ r ∈ L
  | [], A, h => ⟨h, fun r => by simp⟩
  | k :: L, A, h => by
    have step : (addR A k).Nodup ∧ ∀ r, r ∈ addR A k ↔ r ∈ A ∨ r = k := by
      unfold addR
      by_cases q : k ∈ A
      · rw [if_pos q]
        exact ⟨h, fun r => ⟨.inl, fun z => z.elim id fun e => by rw [e]; exact q⟩⟩
      · rw [if_neg q]
        refine ⟨?_, fun r => by simp⟩
        rw [List.nodup_append]
        exact ⟨h, by simp, fun a ha c hc e => by rw [List.mem_singleton.mp hc] at e; exact q (by rw [← e]; exact ha)⟩
    obtain ⟨h1, h2⟩ := dedup_go L (addR A k) step.1
    refine ⟨h1, fun r => ?_⟩
    show r ∈ L.foldl addR (addR A k) ↔ _
    rw [h2, step.2, List.mem_cons, or_assoc]
theorem dedup_nd (L : List (List Int)) : (dedupR L).Nodup := (dedup_go L [] List.nodup_nil).1
theorem dedup_mem (L : List (List Int)) (r : List Int) : r ∈ dedupR L ↔ r ∈ L := by
  have h := (dedup_go L [] List.nodup_nil).2 r
  exact h.trans ⟨fun z => z.elim (fun y => by cases y) id, .inr⟩
/-- rows with just the members of rs make rs -/
theorem sort_same {n : Nat} {rs L : List (List Int)} (h : RlOk n rs) (hm : ∀ r, r ∈ L ↔ r ∈ rs) : sortR 1000000 (dedupR L) = rs := by
  have p1 : (dedupR L).Perm rs := (List.perm_ext_iff_of_nodup (dedup_nd L) h.some.nd).mpr fun r => by rw [dedup_mem, hm]
  have p2 := (sortR_perm (B := 1000000) (dedupR L)).trans p1
  refine List.Perm.eq_of_pairwise (le := fun q r => TS.code 1000000 q ≤ TS.code 1000000 r) (fun a b ha hb h3 h4 => ?_) (sortR_sorted _) (h.asc.imp fun h => Int.le_of_lt h) p2
  have ma := p2.mem_iff.mp ha
  exact code_inj ((h.rows a ma).1.trans (h.rows b hb).1.symm) (row_bd h.rows a ma) (row_bd h.rows b hb) (Int.le_antisymm h3 h4)
theorem rel_any {n : Nat} {rs L : List (List Int)} (h : RlOk n rs) (hm : ∀ r, r ∈ L ↔ r ∈ rs) (hl : L.length < 64) {v : PV} (hv : RowsV L v) (S : Store) : M_rel [.int n, v] S = .ok [.int n, .tup (rs.map rowP)] S := by
  have h0 : L ≠ [] := fun e => by
    cases q : rs with
    | nil => exact h.ne q
    | cons r l =>
      have := (hm r).mpr (by rw [q]; exact List.mem_cons_self)
      rw [e] at this
      cases this
  rw [rel_ok hv h.n1 h.n4 (fun r hr => h.rows r ((hm r).mp hr)) h0 hl, sort_same h hm]
theorem RlOk.takes {n : Nat} {rs : List (List Int)} (h : RlOk n rs) (k : Nat) (hk : 1 ≤ k) : RlOk n (rs.take k) := by
  refine ⟨h.n1, h.n4, fun r hr => h.rows r (List.mem_of_mem_take hr), fun e => ?_, asc_sub h.asc (List.take_sublist k rs), ?_⟩
  · have h1 := congrArg List.length e
    rw [List.length_take, List.length_nil] at h1
    have : 0 < rs.length := List.length_pos_iff.mpr h.ne
    omega
  · rw [List.length_take]
    have := h.few
    omega
/-! ### texts -/
theorem dat_row {r : List Int} (hl : r.length ≤ 4) (hb : Bits r) : Dat (rowP r) 8 1 := by
  have : Dat (rowP r) ((1 + 1) * (r.map PV.int).length) (0 + 1) := dat_tup fun y hy => by
    obtain ⟨b, hb', rfl⟩ := List.mem_map.mp hy
    exact dat_bit (hb b hb')
  rw [List.length_map] at this
  exact this.mono (by omega) (by omega)
theorem dat_tupV {n m : Nat} (hn : n ≤ 4) (hm : m ≤ 4) {t : List (List Int)} (h : Tu n m t) : Dat (tupV t) 36 2 := by
  have : Dat (tupV t) ((8 + 1) * (t.map rowP).length) (1 + 1) := dat_tup fun y hy => by
    obtain ⟨r, hr, rfl⟩ := List.mem_map.mp hy
    obtain ⟨h1, h2⟩ := h.2 r hr
    exact dat_row (by omega) h2
  rw [List.length_map, h.1] at this
  exact this.mono (by omega) (by omega)
theorem dat_small {k : Nat} (h : k < 8) : Dat (.int k) 8 0 := by
  match k, h with
  | 0, _ => exact dat_by (.int 0) rfl (by decide +kernel) rfl
  | 1, _ => exact dat_by (.int 1) rfl (by decide +kernel) rfl
  | 2, _ => exact dat_by (.int 2) rfl (by decide +kernel) rfl
  | 3, _ => exact dat_by (.int 3) rfl (by decide +kernel) rfl
  | 4, _ => exact dat_by (.int 4) rfl (by decide +kernel) rfl
  | 5, _ => exact dat_by (.int 5) rfl (by decide +kernel) rfl
  | 6, _ => exact dat_by (.int 6) rfl (by decide +kernel) rfl
  | 7, _ => exact dat_by (.int 7) rfl (by decide +kernel) rfl
theorem dat_non : Dat .non 36 2 := dat_by .none rfl (by decide +kernel) (by decide +kernel)
theorem dat_brk {n m : Nat} {rs : List (List Int)} (hR : RlOk n rs) (hm : m ≤ 4) (tb : List Int) : Dat (brkV (brk rs tb n m)) 36 2 := by
  cases q : brk rs tb n m with
  | none => exact dat_non
  | some t =>
    have := List.mem_of_find?_eq_some q
    exact dat_tupV hR.n4 hm (tuplesN_mem hR.rows this).1
theorem text_due {rels : List Rl} (h : ∀ p ∈ rels, RlOk p.1 p.2) (hl : rels.length ≤ 6) {m : Nat} (hm : m ≤ 4) (tb : List Int) : ∃ s : Str, ∀ S, gRepr [dueV tb m (dueF rels tb m)] S = .ok (.str s) S := by
  cases q : dueF rels tb m with
  | none =>
    obtain ⟨s, _, g⟩ := dat_non.text (by omega) (by omega)
    exact ⟨s, g⟩
  | some x =>
    have hx : x ∈ rels.zipIdx := List.mem_of_find?_eq_some q
    obtain ⟨p, i⟩ := x
    have hp : p ∈ rels := List.fst_mem_of_mem_zipIdx hx
    have hi : rels[i]? = some p := List.mem_zipIdx_iff_getElem?.mp hx
    have il : i < rels.length := (List.getElem?_eq_some_iff.mp hi).1
    have d : Dat (dueV1 tb m (p, i)) ((36 + 1) * 2) (2 + 1) := dat_tup fun x hx => by
      simp only [List.mem_cons, List.not_mem_nil, or_false] at hx
      rcases hx with rfl | rfl
      · exact (dat_small (by omega)).mono (by omega) (by omega)
      · exact dat_brk (h p hp) hm tb
    obtain ⟨s, _, g⟩ := d.text (by omega) (by omega)
    exact ⟨s, g⟩
/-- data that is small, by computing -/
def datB (v : PV) (w k : Nat) : Bool := match toD v with
  | some d => PyData.showable d && (d.leavesShort 30 && (decide (d.weight ≤ w) && decide (d.depth ≤ k))) && plainD d
  | none => false
theorem dat_dec {v : PV} {w k : Nat} (h : datB v w k = true) : Dat v w k := by
  unfold datB at h
  cases e : toD v with
  | none => rw [e] at h; cases h
  | some d =>
    rw [e] at h
    obtain ⟨h1, h2⟩ := Bool.and_eq_true_iff.mp h
    exact dat_by d e h1 h2
theorem book_lc {rels : List Rl} (h : ∀ p ∈ rels, RlOk p.1 p.2) {ρ : Rho} {S : Store} (hp : ∀ a b : PV, (gTupM 2 (gsCons (gNm 1) (gsCons (gNm 2) gsNil))) (.tup [a, b]) ρ S = .ok ((ρ.set 1 (.val a)).set 2 (.val b)) S) (h1 : ∀ a b : PV, (mVar 1) ((ρ.set 1 (.val a)).set 2 (.val b)) S = .ok a S) (h2 : ∀ a b : PV, (mVar 2) ((ρ.set 1 (.val a)).set 2 (.val b)) S = .ok b S) :
    mLcGo (gTupM 2 (gsCons (gNm 1) (gsCons (gNm 2) gsNil))) mTrue (mMake 2 "Relation" ["size", "rows"] M_rel (mCons (mVar 1) (mCons (mVar 2) mNil))) ρ (rels.map plP) S = .ok (rels.map relP) S := lc_mapL plP relP fun p hp' => by
  refine ⟨_, hp _ _, rfl, ?_⟩
  simp only [ev_make, ev_fldI, ev_isiC, ev_sortD, ev_key, ev_join, ev_cons, ev_nil, ev_bind, h1, h2, List.length_cons, List.length_nil, rel_made (h p hp') .tup]
  rfl
theorem lbook_ok {rels : List Rl} (h : BkOk rels) (S : Store) : Mq__law_book [.lst (rels.map plP)] S = .ok (bookV rels) S := by
  have lc := book_lc h.all (ρ := [.val (.lst (rels.map plP)), .none, .none]) (S := S) (fun _ _ => rfl) (fun _ _ => rfl) (fun _ _ => rfl)
  have z : rels.length ≤ 100000 := by have := h.six; omega
  have bk := fun S => book_ok h S
  show (Bq__law_book [.val (.lst (rels.map plP)), .none, .none] S).bind toRet = _
  unfold Bq__law_book
  rw [dq_rel]
  simp only [ev_bind, ev_nox, ev_seq, ev_set, ev_setOwn, ev_share, ev_drop, ev_ret, ev_retOwn, ev_skip, ev_brk, ev_cnt, ev_ifS, ev_frzS, ev_append, ev_setIx, ev_for, ev_lc, ev_seqOf, ev_range, ev_var, ev_c, ev_op, ev_un, ev_args, ev_nil, ev_cons, ev_frz, ev_b, ev_and, ev_or, ev_not, ev_andV, ev_orV, ev_notV, ev_if, ev_chain, ev_isi, ev_ixOwn, ev_lenOwn, ev_call, ev_callK, ev_sl, ev_part, ev_true, ev_nm, ev_toB, frz, frzAt, toSeq_tup, toSeq_lst, toSeq_cl, toRet, mWipe, kbG, Mir.gTup, Mir.gLst, List.getElem?_cons_zero, List.getElem?_cons_succ, List.set_cons_zero, List.set_cons_succ, List.length_cons, List.length_nil, List.append_nil, List.nil_append, List.cons_append, Nat.reduceAdd, Nat.reduceLeDiff, Nat.reduceEqDiff, Nat.zero_add, reduceIte, Bool.false_eq_true, Bool.not_true, Bool.not_false, and_self, sizeM_eq, ev_make, ev_fldI, ev_isiC, ev_sortD, ev_key, ev_join, List.length_map, z, lc, bk]
  rfl
end Mir
set_option maxHeartbeats 4000000
namespace K04
open PySem L2 Mir
theorem d_take : m__law_take = Mq__law_take := rfl
theorem d_draws : m__law_draws = mDef 8 B_draws := rfl
theorem d_every : m__law_every = mDef 5 B_every := rfl
theorem d_rel : mi_Relation = M_rel := rfl
theorem d_book : mi_Book = Mq_Book := rfl
theorem d_bo : m_break_of = Mq_break_of := rfl
theorem d_bi : m_break_in = Mq_break_in := rfl
theorem d_lb : m__law_break = Mq__law_break := rfl
theorem d_lbook : m__law_book = Mq__law_book := rfl
theorem d_po : m__law_places_of = Mq__law_places_of := rfl
theorem d_six : m__law_six = Mq__law_six := rfl
theorem d_table : m__law_drawn_table = Mq__law_drawn_table := rfl
theorem d_dbook : m__law_drawn_book = Mq__law_drawn_book := rfl
/-- how many rows a table takes -/
def mOf (p : Str × List Int) : Nat := if p.2.length = 2 then 1 else if p.2.length = 4 then 2 else 3
theorem six_of {p : Str × List Int} (h : p ∈ sixL) : 1 ≤ mOf p ∧ mOf p ≤ 3 ∧ TabM (mOf p) p.2 := by
  unfold sixL at h
  simp only [List.mem_cons, List.not_mem_nil, or_false] at h
  rcases h with rfl | rfl | rfl | rfl | rfl | rfl
  all_goals exact ⟨by decide, by decide, rfl, bits_by (by decide)⟩
theorem pow16 {n m : Nat} (hn : n ≤ 16) (hm : m ≤ 3) : n ^ m ≤ 90000 := by
  have a1 : n ^ m ≤ 16 ^ m := Nat.pow_le_pow_left hn m
  have a2 : 16 ^ m ≤ 16 ^ 3 := Nat.pow_le_pow_right (by decide) hm
  have a3 : 16 ^ 3 = 4096 := rfl
  omega
theorem places_ok {p : Str × List Int} (h : p ∈ sixL) (S : Store) : Mq__law_places_of [rowP p.2] S = .ok (.int (mOf p)) S := by
  unfold sixL at h
  simp only [List.mem_cons, List.not_mem_nil, or_false] at h
  rcases h with rfl | rfl | rfl | rfl | rfl | rfl
  all_goals kernel_rfl
theorem get_ok {p : Str × List Int} (h : p ∈ sixL) : c_TABLES.lookup p.1 = some (rowP p.2) := by
  unfold sixL at h
  simp only [List.mem_cons, List.not_mem_nil, or_false] at h
  rcases h with rfl | rfl | rfl | rfl | rfl | rfl
  all_goals kernel_rfl
/-! ### what each word blames -/
def bad (rels : List Rl) (p : Str × List Int) : List (Rl × Nat) := rels.zipIdx.filter fun x => (brk x.1.2 p.2 x.1.1 (mOf p)).isSome
def badV (rels : List Rl) (p : Str × List Int) : PV := .tup ((bad rels p).map (dueV1 p.2 (mOf p)))
def keeps (rels : List Rl) (p : Str × List Int) : Bool := (bad rels p).isEmpty
theorem due_none (rels : List Rl) (p : Str × List Int) : (dueF rels p.2 (mOf p)).isNone = keeps rels p := by
  unfold keeps bad dueF
  rw [Bool.eq_iff_iff, Option.isNone_iff_eq_none, List.find?_eq_none, List.isEmpty_iff, List.filter_eq_nil_iff]
def B_bl1 : Rho → Store → Res Out := (mSeq (mSet 6 (mCall 3 Mq__law_break [] (mCons (mOp gIx (mVar 0) (mVar 5)) (mCons (mVar 3) (mCons (mCall 1 Mq__law_places_of [] (mCons (mVar 3) mNil)) mNil)))))
    (mIfS (mB (mOp gIsN (mVar 6) (mC .non)))
    (mAppend 4 (mArgs Mir.gTup (mCons (mVar 5) (mCons (mVar 6) mNil))))
    mSkip))
def B_bl : Rho → Store → Res Out := (mSeq (mSetOwn 4 (mArgs Mir.gLst mNil))
    (mSeq (mFor (mRange gRange1 (mCons (mArgs gLen (mCons (mVar 0) mNil)) mNil)) (gNm 5) B_bl1)
    (mFrzS 4 (mAppend 1 (mArgs gTuple (mCons (mVar 4) mNil))))))
theorem at_rel {rels : List Rl} {p : Rl} {i : Nat} (hx : (p, i) ∈ rels.zipIdx) (S : Store) : gIx (.lst (rels.map plP)) (.int i) S = .ok (plP p) S := by
  have hi : rels[i]? = some p := List.mem_zipIdx_iff_getElem?.mp hx
  have il : i < rels.length := (List.getElem?_eq_some_iff.mp hi).1
  rw [ix_l]
  obtain ⟨hj, ea⟩ := atI_ok (xs := rels.map plP) (i := (i : Int)) (by omega) (by rw [List.length_map]; omega)
  rw [ea]
  have : (rels.map plP)[(i : Int).toNat] = plP p := by
    rw [List.getElem_map]
    have e2 := (List.getElem?_eq_some_iff.mp hi).2
    simp only [Int.toNat_natCast, e2]
  rw [this]
theorem filt_len {rels : List Rl} {q : Rl × Nat → Bool} {pre post : List (Rl × Nat)} {x : Rl × Nat} (ex : rels.zipIdx = pre ++ x :: post) (hl : rels.length ≤ 6) : (pre.filter q).length < 100000 := by
  have h1 := List.length_filter_le q pre
  have h2 := congrArg List.length ex
  rw [List.length_zipIdx, List.length_append] at h2
  omega
theorem lblamed_ok {rels : List Rl} (h : BkOk rels) (S : Store) : m__law_blamed [.lst (rels.map plP)] S = .ok (.tup (sixL.map (badV rels))) S := by
  have six6 := h.six
  obtain ⟨ρ', S', e, rfl, s2, s3, s4, s5, s6, rfl⟩ := for_map (g := gUn 2 (gsCons (gNm 2) (gsCons (gNm 3) gsNil))) (b := B_bl) sixV (ps := sixL)
    (fun pre ρ S' => S' = S ∧ ∃ s2 s3 s4 s5 s6, ρ = [.val (.lst (rels.map plP)), .own (.lst (pre.map (badV rels))), s2, s3, s4, s5, s6]) (by
      rintro pre p post ρ S' ex ⟨rfl, s2, s3, s4, s5, s6, rfl⟩
      have hp : p ∈ sixL := by rw [ex]; simp
      obtain ⟨m1, m3, hT⟩ := six_of hp
      obtain ⟨ρ2, S2, e2, rfl, t5, t6, rfl⟩ := for_map (g := gNm 5) (b := B_bl1) (fun x : Rl × Nat => PV.int (x.2 : Nat)) (ps := rels.zipIdx)
        (fun done ρ S2 => S2 = S' ∧ ∃ t5 t6, ρ = [.val (.lst (rels.map plP)), .own (.lst (pre.map (badV rels))), .val (.str p.1), .val (rowP p.2), .own (.lst ((done.filter fun x => (brk x.1.2 p.2 x.1.1 (mOf p)).isSome).map (dueV1 p.2 (mOf p)))), t5, t6]) (by
          rintro done ⟨r, i⟩ more ρ S2 ex2 ⟨rfl, t5, t6, rfl⟩
          have hx : (r, i) ∈ rels.zipIdx := by rw [ex2]; simp
          have hr : r ∈ rels := List.fst_mem_of_mem_zipIdx hx
          have R := h.all r hr
          have ix := fun S => at_rel hx S
          have lb := fun S => lbreak_ok R m1 (by omega) (pow16 R.few m3) hT S
          have zl := filt_len (q := fun x => (brk x.1.2 p.2 x.1.1 (mOf p)).isSome) ex2 six6
          have po := fun S => places_ok hp S
          unfold plP at ix
          refine ⟨[.val (.lst (rels.map plP)), .own (.lst (pre.map (badV rels))), .val (.str p.1), .val (rowP p.2), .own (.lst (((done ++ [(r, i)]).filter fun x => (brk x.1.2 p.2 x.1.1 (mOf p)).isSome).map (dueV1 p.2 (mOf p)))), .val (.int i), .val (brkV (brk r.2 p.2 r.1 (mOf p)))], S2, .inl ?_, rfl, _, _, rfl⟩
          rw [List.filter_append]
          unfold B_bl1
          cases q : (brk r.2 p.2 r.1 (mOf p)).isSome with
          | true =>
            have fl : [((r, i) : Rl × Nat)].filter (fun x => (brk x.1.2 p.2 x.1.1 (mOf p)).isSome) = [(r, i)] := by simp [q]
            rw [fl]
            unfold plP
            simp only [ev_bind, ev_nox, ev_seq, ev_set, ev_setOwn, ev_share, ev_drop, ev_ret, ev_retOwn, ev_skip, ev_brk, ev_cnt, ev_ifS, ev_frzS, ev_append, ev_setIx, ev_for, ev_lc, ev_seqOf, ev_range, ev_var, ev_c, ev_op, ev_un, ev_args, ev_nil, ev_cons, ev_frz, ev_b, ev_and, ev_or, ev_not, ev_andV, ev_orV, ev_notV, ev_if, ev_chain, ev_isi, ev_ixOwn, ev_lenOwn, ev_call, ev_callK, ev_sl, ev_part, ev_true, ev_nm, ev_toB, frz, frzAt, toSeq_tup, toSeq_lst, toSeq_cl, toRet, mWipe, kbG, Mir.gTup, Mir.gLst, List.getElem?_cons_zero, List.getElem?_cons_succ, List.set_cons_zero, List.set_cons_succ, List.length_cons, List.length_nil, List.append_nil, List.nil_append, List.cons_append, Nat.reduceAdd, Nat.reduceLeDiff, Nat.reduceEqDiff, Nat.zero_add, reduceIte, Bool.false_eq_true, Bool.not_true, Bool.not_false, and_self, sizeM_eq, ix, po, lb, isN_brk, q, List.length_map, zl, List.map_append, List.map_cons, List.map_nil]
            rfl
          | false =>
            have fl : [((r, i) : Rl × Nat)].filter (fun x => (brk x.1.2 p.2 x.1.1 (mOf p)).isSome) = [] := by simp [q]
            rw [fl]
            unfold plP
            simp only [ev_bind, ev_nox, ev_seq, ev_set, ev_setOwn, ev_share, ev_drop, ev_ret, ev_retOwn, ev_skip, ev_brk, ev_cnt, ev_ifS, ev_frzS, ev_append, ev_setIx, ev_for, ev_lc, ev_seqOf, ev_range, ev_var, ev_c, ev_op, ev_un, ev_args, ev_nil, ev_cons, ev_frz, ev_b, ev_and, ev_or, ev_not, ev_andV, ev_orV, ev_notV, ev_if, ev_chain, ev_isi, ev_ixOwn, ev_lenOwn, ev_call, ev_callK, ev_sl, ev_part, ev_true, ev_nm, ev_toB, frz, frzAt, toSeq_tup, toSeq_lst, toSeq_cl, toRet, mWipe, kbG, Mir.gTup, Mir.gLst, List.getElem?_cons_zero, List.getElem?_cons_succ, List.set_cons_zero, List.set_cons_succ, List.length_cons, List.length_nil, List.append_nil, List.nil_append, List.cons_append, Nat.reduceAdd, Nat.reduceLeDiff, Nat.reduceEqDiff, Nat.zero_add, reduceIte, Bool.false_eq_true, Bool.not_true, Bool.not_false, and_self, sizeM_eq, ix, po, lb, isN_brk, q]) [.val (.lst (rels.map plP)), .own (.lst (pre.map (badV rels))), .val (.str p.1), .val (rowP p.2), .own (.lst []), s5, s6] S' ⟨rfl, _, _, rfl⟩
      rw [← rng_zip] at e2
      have pl : pre.length < 100000 := by
        have := congrArg List.length ex
        rw [List.length_append] at this
        have l6 : sixL.length = 6 := rfl
        omega
      refine ⟨[.val (.lst (rels.map plP)), .own (.lst ((pre ++ [p]).map (badV rels))), .val (.str p.1), .val (rowP p.2), .val (.lst ((bad rels p).map (dueV1 p.2 (mOf p)))), t5, t6], S2, .inl ?_, rfl, _, _, _, _, _, rfl⟩
      unfold B_bl sixV
      simp only [ev_bindExc, ev_asg, ev_unTup, ev_unLst, ev_tupM, ev_gsCons, ev_gsNil, ev_raise, ev_tryL, ev_tryOk, ev_tryExc, ev_tryB, ev_tryBOk, ev_tryBExc, endS_rtE, endS_nxE, ev_kin, ev_kget, ev_index, eqD_int, neD_int, ev_bind, ev_nox, ev_seq, ev_set, ev_setOwn, ev_share, ev_drop, ev_ret, ev_retOwn, ev_skip, ev_brk, ev_cnt, ev_ifS, ev_frzS, ev_append, ev_setIx, ev_for, ev_lc, ev_seqOf, ev_range, ev_var, ev_c, ev_op, ev_un, ev_args, ev_nil, ev_cons, ev_frz, ev_b, ev_and, ev_or, ev_not, ev_andV, ev_orV, ev_notV, ev_if, ev_chain, ev_isi, ev_ixOwn, ev_lenOwn, ev_call, ev_callK, ev_sl, ev_part, ev_true, ev_nm, ev_toB, frz, frzAt, toSeq_tup, toSeq_lst, toSeq_cl, toRet, mWipe, kbG, Mir.gTup, Mir.gLst, List.getElem?_cons_zero, List.getElem?_cons_succ, List.set_cons_zero, List.set_cons_succ, List.length_cons, List.length_nil, List.append_nil, List.nil_append, List.cons_append, Nat.reduceAdd, Nat.reduceLeDiff, Nat.reduceEqDiff, Nat.zero_add, reduceIte, Bool.false_eq_true, Bool.not_true, Bool.not_false, and_self, sizeM_eq, gLen, List.length_map, rngN (show rels.length ≤ 100000 by omega), e2, gTuple, pl, List.map_append, List.map_cons, List.map_nil]
      rfl) [.val (.lst (rels.map plP)), .own (.lst []), .none, .none, .none, .none, .none] S ⟨rfl, _, _, _, _, _, rfl⟩
  show (b__law_blamed [.val (.lst (rels.map plP)), .none, .none, .none, .none, .none, .none] S').bind toRet = _
  unfold B_bl B_bl1 at e
  unfold b__law_blamed
  rw [d_six, d_lb, d_po]
  simp only [ev_bind, ev_nox, ev_seq, ev_set, ev_setOwn, ev_share, ev_drop, ev_ret, ev_retOwn, ev_skip, ev_brk, ev_cnt, ev_ifS, ev_frzS, ev_append, ev_setIx, ev_for, ev_lc, ev_seqOf, ev_range, ev_var, ev_c, ev_op, ev_un, ev_args, ev_nil, ev_cons, ev_frz, ev_b, ev_and, ev_or, ev_not, ev_andV, ev_orV, ev_notV, ev_if, ev_chain, ev_isi, ev_ixOwn, ev_lenOwn, ev_call, ev_callK, ev_sl, ev_part, ev_true, ev_nm, ev_toB, frz, frzAt, toSeq_tup, toSeq_lst, toSeq_cl, toRet, mWipe, kbG, Mir.gTup, Mir.gLst, List.getElem?_cons_zero, List.getElem?_cons_succ, List.set_cons_zero, List.set_cons_succ, List.length_cons, List.length_nil, List.append_nil, List.nil_append, List.cons_append, Nat.reduceAdd, Nat.reduceLeDiff, Nat.reduceEqDiff, Nat.zero_add, reduceIte, Bool.false_eq_true, Bool.not_true, Bool.not_false, and_self, sizeM_eq, six_ok, e, gTuple]
def B_bp1 : Rho → Store → Res Out := (mSeq (mSet 6 (mCall 2 Mq_break_in [] (mCons (mVar 5) (mCons (mKGet c_TABLES (mVar 2)) mNil))))
    (mIfS (mB (mOp gIsN (mVar 6) (mC .non)))
    (mAppend 3 (mArgs Mir.gTup (mCons (mVar 4) (mCons (mVar 6) mNil))))
    mSkip))
def B_bp : Rho → Store → Res Out := (mSeq (mSetOwn 3 (mArgs Mir.gLst mNil))
    (mSeq (mFor (mRange gEnum (mCons (mFldI "Book" "relations" (mVar 0)) mNil)) (gUn 2 (gsCons (gNm 4) (gsCons (gNm 5) gsNil))) B_bp1)
    (mFrzS 3 (mAppend 1 (mArgs gTuple (mCons (mVar 3) mNil))))))
theorem words_eq : c_WORDS = .tup (sixL.map fun p => PV.str p.1) := rfl
theorem fld_rels {rels : List Rl} : List.lookup ("relations" : Str) ((["relations", "plain"] : List Str).zip [PV.tup (rels.map relP), .tup (rels.map plP)]) = some (.tup (rels.map relP)) := rfl
theorem blamed_ok {rels : List Rl} (h : BkOk rels) (S : Store) : m_blamed [bookV rels] S = .ok (.tup (sixL.map (badV rels))) S := by
  have six6 := h.six
  obtain ⟨ρ', S', e, rfl, s2, s3, s4, s5, s6, rfl⟩ := for_map (g := gNm 2) (b := B_bp) (fun p : Str × List Int => PV.str p.1) (ps := sixL)
    (fun pre ρ S' => S' = S ∧ ∃ s2 s3 s4 s5 s6, ρ = [.val (bookV rels), .own (.lst (pre.map (badV rels))), s2, s3, s4, s5, s6]) (by
      rintro pre p post ρ S' ex ⟨rfl, s2, s3, s4, s5, s6, rfl⟩
      have hp : p ∈ sixL := by rw [ex]; simp
      obtain ⟨m1, m3, hT⟩ := six_of hp
      obtain ⟨ρ2, S2, e2, rfl, t4, t5, t6, rfl⟩ := for_map (g := gUn 2 (gsCons (gNm 4) (gsCons (gNm 5) gsNil))) (b := B_bp1) (fun x : Rl × Nat => PV.tup [.int x.2, relP x.1]) (ps := rels.zipIdx)
        (fun done ρ S2 => S2 = S' ∧ ∃ t4 t5 t6, ρ = [.val (bookV rels), .own (.lst (pre.map (badV rels))), .val (.str p.1), .own (.lst ((done.filter fun x => (brk x.1.2 p.2 x.1.1 (mOf p)).isSome).map (dueV1 p.2 (mOf p)))), t4, t5, t6]) (by
          rintro done ⟨r, i⟩ more ρ S2 ex2 ⟨rfl, t4, t5, t6, rfl⟩
          have hx : (r, i) ∈ rels.zipIdx := by rw [ex2]; simp
          have hr : r ∈ rels := List.fst_mem_of_mem_zipIdx hx
          have R := h.all r hr
          have bi := fun S => breakin_ok R m1 (by omega) (pow16 R.few m3) hT S
          have zl := filt_len (q := fun x => (brk x.1.2 p.2 x.1.1 (mOf p)).isSome) ex2 six6
          have gt := get_ok hp
          refine ⟨[.val (bookV rels), .own (.lst (pre.map (badV rels))), .val (.str p.1), .own (.lst (((done ++ [(r, i)]).filter fun x => (brk x.1.2 p.2 x.1.1 (mOf p)).isSome).map (dueV1 p.2 (mOf p)))), .val (.int i), .val (relP r), .val (brkV (brk r.2 p.2 r.1 (mOf p)))], S2, .inl ?_, rfl, _, _, _, rfl⟩
          rw [List.filter_append]
          unfold B_bp1
          cases q : (brk r.2 p.2 r.1 (mOf p)).isSome with
          | true =>
            have fl : [((r, i) : Rl × Nat)].filter (fun x => (brk x.1.2 p.2 x.1.1 (mOf p)).isSome) = [(r, i)] := by simp [q]
            rw [fl]
            unfold relP
            simp only [ev_bindExc, ev_asg, ev_unTup, ev_unLst, ev_tupM, ev_gsCons, ev_gsNil, ev_raise, ev_tryL, ev_tryOk, ev_tryExc, ev_tryB, ev_tryBOk, ev_tryBExc, endS_rtE, endS_nxE, ev_kin, ev_kget, ev_index, eqD_int, neD_int, ev_bind, ev_nox, ev_seq, ev_set, ev_setOwn, ev_share, ev_drop, ev_ret, ev_retOwn, ev_skip, ev_brk, ev_cnt, ev_ifS, ev_frzS, ev_append, ev_setIx, ev_for, ev_lc, ev_seqOf, ev_range, ev_var, ev_c, ev_op, ev_un, ev_args, ev_nil, ev_cons, ev_frz, ev_b, ev_and, ev_or, ev_not, ev_andV, ev_orV, ev_notV, ev_if, ev_chain, ev_isi, ev_ixOwn, ev_lenOwn, ev_call, ev_callK, ev_sl, ev_part, ev_true, ev_nm, ev_toB, frz, frzAt, toSeq_tup, toSeq_lst, toSeq_cl, toRet, mWipe, kbG, Mir.gTup, Mir.gLst, List.getElem?_cons_zero, List.getElem?_cons_succ, List.set_cons_zero, List.set_cons_succ, List.length_cons, List.length_nil, List.append_nil, List.nil_append, List.cons_append, Nat.reduceAdd, Nat.reduceLeDiff, Nat.reduceEqDiff, Nat.zero_add, reduceIte, Bool.false_eq_true, Bool.not_true, Bool.not_false, and_self, sizeM_eq, gt, bi, isN_brk, q, List.length_map, zl, List.map_append, List.map_cons, List.map_nil]
            rfl
          | false =>
            have fl : [((r, i) : Rl × Nat)].filter (fun x => (brk x.1.2 p.2 x.1.1 (mOf p)).isSome) = [] := by simp [q]
            rw [fl]
            unfold relP
            simp only [ev_bindExc, ev_asg, ev_unTup, ev_unLst, ev_tupM, ev_gsCons, ev_gsNil, ev_raise, ev_tryL, ev_tryOk, ev_tryExc, ev_tryB, ev_tryBOk, ev_tryBExc, endS_rtE, endS_nxE, ev_kin, ev_kget, ev_index, eqD_int, neD_int, ev_bind, ev_nox, ev_seq, ev_set, ev_setOwn, ev_share, ev_drop, ev_ret, ev_retOwn, ev_skip, ev_brk, ev_cnt, ev_ifS, ev_frzS, ev_append, ev_setIx, ev_for, ev_lc, ev_seqOf, ev_range, ev_var, ev_c, ev_op, ev_un, ev_args, ev_nil, ev_cons, ev_frz, ev_b, ev_and, ev_or, ev_not, ev_andV, ev_orV, ev_notV, ev_if, ev_chain, ev_isi, ev_ixOwn, ev_lenOwn, ev_call, ev_callK, ev_sl, ev_part, ev_true, ev_nm, ev_toB, frz, frzAt, toSeq_tup, toSeq_lst, toSeq_cl, toRet, mWipe, kbG, Mir.gTup, Mir.gLst, List.getElem?_cons_zero, List.getElem?_cons_succ, List.set_cons_zero, List.set_cons_succ, List.length_cons, List.length_nil, List.append_nil, List.nil_append, List.cons_append, Nat.reduceAdd, Nat.reduceLeDiff, Nat.reduceEqDiff, Nat.zero_add, reduceIte, Bool.false_eq_true, Bool.not_true, Bool.not_false, and_self, sizeM_eq, gt, bi, isN_brk, q, List.append_nil]) [.val (bookV rels), .own (.lst (pre.map (badV rels))), .val (.str p.1), .own (.lst []), s4, s5, s6] S' ⟨rfl, _, _, _, rfl⟩
      have pl : pre.length < 100000 := by
        have := congrArg List.length ex
        rw [List.length_append] at this
        have l6 : sixL.length = 6 := rfl
        omega
      refine ⟨[.val (bookV rels), .own (.lst ((pre ++ [p]).map (badV rels))), .val (.str p.1), .val (.lst ((bad rels p).map (dueV1 p.2 (mOf p)))), t4, t5, t6], S2, .inl ?_, rfl, _, _, _, _, _, rfl⟩
      unfold B_bp
      unfold bookV at e2 ⊢
      simp only [ev_bindExc, ev_asg, ev_unTup, ev_unLst, ev_tupM, ev_gsCons, ev_gsNil, ev_raise, ev_tryL, ev_tryOk, ev_tryExc, ev_tryB, ev_tryBOk, ev_tryBExc, endS_rtE, endS_nxE, ev_kin, ev_kget, ev_index, eqD_int, neD_int, ev_bind, ev_nox, ev_seq, ev_set, ev_setOwn, ev_share, ev_drop, ev_ret, ev_retOwn, ev_skip, ev_brk, ev_cnt, ev_ifS, ev_frzS, ev_append, ev_setIx, ev_for, ev_lc, ev_seqOf, ev_range, ev_var, ev_c, ev_op, ev_un, ev_args, ev_nil, ev_cons, ev_frz, ev_b, ev_and, ev_or, ev_not, ev_andV, ev_orV, ev_notV, ev_if, ev_chain, ev_isi, ev_ixOwn, ev_lenOwn, ev_call, ev_callK, ev_sl, ev_part, ev_true, ev_nm, ev_toB, frz, frzAt, toSeq_tup, toSeq_lst, toSeq_cl, toRet, mWipe, kbG, Mir.gTup, Mir.gLst, List.getElem?_cons_zero, List.getElem?_cons_succ, List.set_cons_zero, List.set_cons_succ, List.length_cons, List.length_nil, List.append_nil, List.nil_append, List.cons_append, Nat.reduceAdd, Nat.reduceLeDiff, Nat.reduceEqDiff, Nat.zero_add, reduceIte, Bool.false_eq_true, Bool.not_true, Bool.not_false, and_self, sizeM_eq, ev_make, ev_fldI, ev_isiC, ev_sortD, ev_key, ev_join, fld_rels, gEnum, enum_zip, e2, gTuple, List.length_map, pl, List.map_append, List.map_cons, List.map_nil]
      rfl) [.val (bookV rels), .own (.lst []), .none, .none, .none, .none, .none] S ⟨rfl, _, _, _, _, _, rfl⟩
  show (b_blamed [.val (bookV rels), .none, .none, .none, .none, .none, .none] S').bind toRet = _
  unfold B_bp B_bp1 at e
  unfold b_blamed
  rw [d_bi]
  simp only [ev_bind, ev_nox, ev_seq, ev_set, ev_setOwn, ev_share, ev_drop, ev_ret, ev_retOwn, ev_skip, ev_brk, ev_cnt, ev_ifS, ev_frzS, ev_append, ev_setIx, ev_for, ev_lc, ev_seqOf, ev_range, ev_var, ev_c, ev_op, ev_un, ev_args, ev_nil, ev_cons, ev_frz, ev_b, ev_and, ev_or, ev_not, ev_andV, ev_orV, ev_notV, ev_if, ev_chain, ev_isi, ev_ixOwn, ev_lenOwn, ev_call, ev_callK, ev_sl, ev_part, ev_true, ev_nm, ev_toB, frz, frzAt, toSeq_tup, toSeq_lst, toSeq_cl, toRet, mWipe, kbG, Mir.gTup, Mir.gLst, List.getElem?_cons_zero, List.getElem?_cons_succ, List.set_cons_zero, List.set_cons_succ, List.length_cons, List.length_nil, List.append_nil, List.nil_append, List.cons_append, Nat.reduceAdd, Nat.reduceLeDiff, Nat.reduceEqDiff, Nat.zero_add, reduceIte, Bool.false_eq_true, Bool.not_true, Bool.not_false, and_self, sizeM_eq, words_eq, e, gTuple]
end K04
set_option maxHeartbeats 4000000
namespace K04
open PySem L2 Mir
/-! ### kept_by -/
def wordV (p : Str × List Int) : PV := .str p.1
def keptL (rels : List Rl) : List (Str × List Int) := sixL.filter (keeps rels)
theorem isA_due {tb : List Int} {m : Nat} (o : Option (Rl × Nat)) (S : Store) : gIsA (dueV tb m o) .non S = .ok (.bl o.isNone) S := by
  cases o <;> rfl
theorem kept_lc {rels : List Rl} (h : BkOk rels) {ws : List (Str × List Int)} (hw : ∀ p ∈ ws, p ∈ sixL) (s1 s2 : Slot) (S : Store) : mLcGo (gNm 3) (mB (mOp gIsA (mCall 2 Mq_break_of [] (mCons (mVar 0) (mCons (mKGet c_TABLES (mVar 3)) mNil))) (mC .non))) (mVar 3) [.val (bookV rels), s1, s2, .none] (ws.map wordV) S = .ok ((ws.filter (keeps rels)).map wordV) S := lc_filterL wordV wordV (keeps rels) fun p hp => by
  have hp6 := hw p hp
  obtain ⟨m1, m3, hT⟩ := six_of hp6
  have bo := fun S => breakof_ok h m1 (by omega) (fun q hq => pow16 (h.all q hq).few m3) hT S
  have gt := get_ok hp6
  refine ⟨_, rfl, ?_, fun _ => rfl⟩
  unfold wordV
  simp only [ev_bindExc, ev_asg, ev_unTup, ev_unLst, ev_tupM, ev_gsCons, ev_gsNil, ev_raise, ev_tryL, ev_tryOk, ev_tryExc, ev_tryB, ev_tryBOk, ev_tryBExc, endS_rtE, endS_nxE, ev_kin, ev_kget, ev_index, eqD_int, neD_int, ev_bind, ev_nox, ev_seq, ev_set, ev_setOwn, ev_share, ev_drop, ev_ret, ev_retOwn, ev_skip, ev_brk, ev_cnt, ev_ifS, ev_frzS, ev_append, ev_setIx, ev_for, ev_lc, ev_seqOf, ev_range, ev_var, ev_c, ev_op, ev_un, ev_args, ev_nil, ev_cons, ev_frz, ev_b, ev_and, ev_or, ev_not, ev_andV, ev_orV, ev_notV, ev_if, ev_chain, ev_isi, ev_ixOwn, ev_lenOwn, ev_call, ev_callK, ev_sl, ev_part, ev_true, ev_nm, ev_toB, frz, frzAt, toSeq_tup, toSeq_lst, toSeq_cl, toRet, mWipe, kbG, Mir.gTup, Mir.gLst, List.getElem?_cons_zero, List.getElem?_cons_succ, List.set_cons_zero, List.set_cons_succ, List.length_cons, List.length_nil, List.append_nil, List.nil_append, List.cons_append, Nat.reduceAdd, Nat.reduceLeDiff, Nat.reduceEqDiff, Nat.zero_add, reduceIte, Bool.false_eq_true, Bool.not_true, Bool.not_false, and_self, sizeM_eq, gt, bo, isA_due, due_none]
theorem kept_ok {rels : List Rl} (h : BkOk rels) (S : Store) : m_kept_by [bookV rels, .bl false] S = .ok (.tup ((keptL rels).map wordV)) S := by
  have lc := kept_lc h (ws := sixL) (fun _ h => h) (.val (.bl false)) (.val (.tup (sixL.map wordV))) S
  have z : sixL.length ≤ 100000 := by decide
  show (b_kept_by [.val (bookV rels), .val (.bl false), .none, .none] S).bind toRet = _
  unfold b_kept_by
  rw [d_bo, words_eq]
  unfold wordV at lc
  simp only [ev_bind, ev_nox, ev_seq, ev_set, ev_setOwn, ev_share, ev_drop, ev_ret, ev_retOwn, ev_skip, ev_brk, ev_cnt, ev_ifS, ev_frzS, ev_append, ev_setIx, ev_for, ev_lc, ev_seqOf, ev_range, ev_var, ev_c, ev_op, ev_un, ev_args, ev_nil, ev_cons, ev_frz, ev_b, ev_and, ev_or, ev_not, ev_andV, ev_orV, ev_notV, ev_if, ev_chain, ev_isi, ev_ixOwn, ev_lenOwn, ev_call, ev_callK, ev_sl, ev_part, ev_true, ev_nm, ev_toB, frz, frzAt, toSeq_tup, toSeq_lst, toSeq_cl, toRet, mWipe, kbG, Mir.gTup, Mir.gLst, List.getElem?_cons_zero, List.getElem?_cons_succ, List.set_cons_zero, List.set_cons_succ, List.length_cons, List.length_nil, List.append_nil, List.nil_append, List.cons_append, Nat.reduceAdd, Nat.reduceLeDiff, Nat.reduceEqDiff, Nat.zero_add, reduceIte, Bool.false_eq_true, Bool.not_true, Bool.not_false, and_self, sizeM_eq, ev_shr, ev_disp, ev_dput, ev_tru, gTru, List.length_map, z, lc, gTuple]
  rfl
theorem fixed_ok {rels : List Rl} (h : BkOk rels) (S : Store) : m_kept_by [bookV rels, .bl true] S = .ok (.tup (((sixL.drop 2).filter (keeps rels)).map wordV)) S := by
  have lc := kept_lc h (ws := sixL.drop 2) (fun _ h => List.mem_of_mem_drop h) (.val (.bl true)) (.val (.tup ((sixL.drop 2).map wordV))) S
  have z : (sixL.drop 2).length ≤ 100000 := by decide
  have c : cutP (sixL.map fun p => PV.str p.1) (some 2) none = (sixL.drop 2).map fun p => PV.str p.1 := by
    have := cutD (sixL.map fun p => PV.str p.1) 2
    rw [← List.map_drop] at this
    exact this
  show (b_kept_by [.val (bookV rels), .val (.bl true), .none, .none] S).bind toRet = _
  unfold b_kept_by
  rw [d_bo, words_eq]
  unfold wordV at lc
  simp only [ev_bind, ev_nox, ev_seq, ev_set, ev_setOwn, ev_share, ev_drop, ev_ret, ev_retOwn, ev_skip, ev_brk, ev_cnt, ev_ifS, ev_frzS, ev_append, ev_setIx, ev_for, ev_lc, ev_seqOf, ev_range, ev_var, ev_c, ev_op, ev_un, ev_args, ev_nil, ev_cons, ev_frz, ev_b, ev_and, ev_or, ev_not, ev_andV, ev_orV, ev_notV, ev_if, ev_chain, ev_isi, ev_ixOwn, ev_lenOwn, ev_call, ev_callK, ev_sl, ev_part, ev_true, ev_nm, ev_toB, frz, frzAt, toSeq_tup, toSeq_lst, toSeq_cl, toRet, mWipe, kbG, Mir.gTup, Mir.gLst, List.getElem?_cons_zero, List.getElem?_cons_succ, List.set_cons_zero, List.set_cons_succ, List.length_cons, List.length_nil, List.append_nil, List.nil_append, List.cons_append, Nat.reduceAdd, Nat.reduceLeDiff, Nat.reduceEqDiff, Nat.zero_add, reduceIte, Bool.false_eq_true, Bool.not_true, Bool.not_false, and_self, sizeM_eq, ev_shr, ev_disp, ev_dput, ev_tru, gTru, gSl, c, List.length_map, z, lc, gTuple]
  rfl
/-! ### texts -/
theorem dat_word {p : Str × List Int} (h : p ∈ sixL) : Dat (wordV p) 60 0 := by
  unfold sixL at h
  simp only [List.mem_cons, List.not_mem_nil, or_false] at h
  rcases h with rfl | rfl | rfl | rfl | rfl | rfl
  all_goals exact dat_dec (by decide +kernel)
theorem text_words {ws : List (Str × List Int)} (h : ws.Sublist sixL) : ∃ s : Str, ∀ S, gRepr [.tup (ws.map wordV)] S = .ok (.str s) S := by
  have l := h.length_le
  have l6 : sixL.length = 6 := rfl
  have d : Dat (.tup (ws.map wordV)) ((60 + 1) * (ws.map wordV).length) (0 + 1) := dat_tup fun x hx => by
    obtain ⟨p, hp, rfl⟩ := List.mem_map.mp hx
    exact dat_word (h.subset hp)
  rw [List.length_map] at d
  obtain ⟨s, _, g⟩ := d.text (by omega) (by omega)
  exact ⟨s, g⟩
theorem dat_bad {rels : List Rl} (h : BkOk rels) (hl : rels.length ≤ 3) {p : Str × List Int} (hp : p ∈ sixL) : Dat (badV rels p) 225 4 := by
  obtain ⟨m1, m3, hT⟩ := six_of hp
  have l1 : (bad rels p).length ≤ 3 := by
    have := List.length_filter_le (fun x : Rl × Nat => (brk x.1.2 p.2 x.1.1 (mOf p)).isSome) rels.zipIdx
    rw [List.length_zipIdx] at this
    exact Nat.le_trans this hl
  have d : Dat (badV rels p) ((74 + 1) * ((bad rels p).map (dueV1 p.2 (mOf p))).length) (3 + 1) := dat_tup fun x hx => by
    obtain ⟨⟨r, i⟩, hy, rfl⟩ := List.mem_map.mp hx
    have hx := (List.mem_filter.mp hy).1
    have hr : r ∈ rels := List.fst_mem_of_mem_zipIdx hx
    have hi : rels[i]? = some r := List.mem_zipIdx_iff_getElem?.mp hx
    have il : i < rels.length := (List.getElem?_eq_some_iff.mp hi).1
    exact (dat_tup (xs := [.int i, brkV (brk r.2 p.2 r.1 (mOf p))]) (w := 36) (k := 2) fun x hx => by
      simp only [List.mem_cons, List.not_mem_nil, or_false] at hx
      rcases hx with rfl | rfl
      · exact (dat_small (by omega)).mono (by omega) (by omega)
      · exact dat_brk (h.all r hr) (by omega) p.2).mono (by simp) (by omega)
  rw [List.length_map] at d
  exact d.mono (by omega) (by omega)
theorem text_bad {rels : List Rl} (h : BkOk rels) (hl : rels.length ≤ 3) : ∃ s : Str, ∀ S, gRepr [.tup (sixL.map (badV rels))] S = .ok (.str s) S := by
  have l6 : sixL.length = 6 := rfl
  have d : Dat (.tup (sixL.map (badV rels))) ((225 + 1) * (sixL.map (badV rels)).length) (4 + 1) := dat_tup fun x hx => by
    obtain ⟨p, hp, rfl⟩ := List.mem_map.mp hx
    exact dat_bad h hl hp
  rw [List.length_map, l6] at d
  obtain ⟨s, _, g⟩ := d.text (by omega) (by omega)
  exact ⟨s, g⟩
theorem text_bits {r : List Int} (hb : Bits r) (hl : r.length ≤ 64) : ∃ s : Str, ∀ S, gRepr [rowP r] S = .ok (.str s) S := by
  have d : Dat (rowP r) ((1 + 1) * (r.map PV.int).length) (0 + 1) := dat_tup fun x hx => by
    obtain ⟨b, hb', rfl⟩ := List.mem_map.mp hx
    exact dat_bit (hb b hb')
  rw [List.length_map] at d
  obtain ⟨s, _, g⟩ := d.text (by omega) (by omega)
  exact ⟨s, g⟩
/-! ### due[k] == () -/
/-- data that may be laid, k deep -/
def LyD (v : PV) (k : Nat) : Prop := ∃ d, toD v = some d ∧ d.canLay0 = true ∧ d.depth ≤ k
theorem lys {k : Nat} : ∀ {xs : List PV}, (∀ x ∈ xs, LyD x k) → ∃ ds, toDs xs = some ds ∧ PyData.canLayAll0 ds = true ∧ PyData.depthAll ds ≤ k ∧ ds.length = xs.length
  | [], _ => ⟨[], rfl, rfl, by simp [PyData.depthAll], rfl⟩
  | x :: xs, h => by
    obtain ⟨d, e1, e2, e3⟩ := h x List.mem_cons_self
    obtain ⟨ds, f1, f2, f3, f4⟩ := lys fun y hy => h y (List.mem_cons_of_mem _ hy)
    exact ⟨d :: ds, by simp only [toDs, e1, f1], by simp only [PyData.canLayAll0, e2, f2, Bool.and_self], by simp only [PyData.depthAll]; omega, by simp [f4]⟩
theorem ly_tup {xs : List PV} {k : Nat} (h : ∀ x ∈ xs, LyD x k) : LyD (.tup xs) (k + 1) := by
  obtain ⟨ds, f1, f2, f3, _⟩ := lys h
  exact ⟨.tuple ds, by simp only [toD, f1, Option.map_some], by simp only [PyData.canLay0]; exact f2, by simp only [PyData.depth]; omega⟩
theorem ly_int (i : Int) (k : Nat) : LyD (.int i) k := ⟨.int i, rfl, rfl, by simp [PyData.depth]⟩
theorem ly_non (k : Nat) : LyD .non k := ⟨.none, rfl, rfl, by simp [PyData.depth]⟩
theorem LyD.up {v : PV} {k j : Nat} (h : LyD v k) (hj : k ≤ j) : LyD v j := let ⟨d, a, b, c⟩ := h; ⟨d, a, b, Nat.le_trans c hj⟩
theorem ly_row (r : List Int) : LyD (rowP r) 1 := ly_tup fun x hx => by
  obtain ⟨b, _, rfl⟩ := List.mem_map.mp hx
  exact ly_int b 0
theorem ly_brk (o : Option (List (List Int))) : LyD (brkV o) 2 := by
  cases o with
  | none => exact ly_non 2
  | some t =>
    refine ly_tup fun x hx => ?_
    obtain ⟨r, _, rfl⟩ := List.mem_map.mp hx
    exact ly_row r
theorem ly_bad (rels : List Rl) (p : Str × List Int) : LyD (badV rels p) 4 := ly_tup fun x hx => by
  obtain ⟨⟨r, i⟩, _, rfl⟩ := List.mem_map.mp hx
  refine ly_tup fun x hx => ?_
  simp only [List.mem_cons, List.not_mem_nil, or_false] at hx
  rcases hx with rfl | rfl
  · exact ly_int _ _
  · exact ly_brk _
theorem eq_empty {xs : List PV} {k : Nat} (h : ∀ x ∈ xs, LyD x k) (hk : k ≤ 60) (S : Store) : gEqD false (.tup xs) (.tup []) S = .ok (.bl xs.isEmpty) S := by
  obtain ⟨ds, f1, f2, f3, f4⟩ := lys h
  show gEqDeep false (.tup xs) (.tup []) S = _
  unfold gEqDeep
  have s1 : SeqAt.shaped (.tuple ds) = true := Bool.and_eq_true_iff.mpr ⟨f2, decide_eq_true (by simp only [PyData.depth]; omega)⟩
  have s2 : SeqAt.shaped (.tuple []) = true := rfl
  simp only [toD, toDs, f1, Option.map_some, s1, s2, Bool.and_self, if_true, Bool.false_eq_true, if_false]
  cases ds with
  | nil =>
    cases xs with
    | nil => rfl
    | cons => simp at f4
  | cons d ds =>
    cases xs with
    | nil => simp at f4
    | cons => rfl
theorem eq_bad (rels : List Rl) (p : Str × List Int) (S : Store) : gEqD false (badV rels p) (.tup []) S = .ok (.bl (keeps rels p)) S := by
  have := eq_empty (xs := (bad rels p).map (dueV1 p.2 (mOf p))) (k := 3) (fun x hx => by
    obtain ⟨⟨r, i⟩, _, rfl⟩ := List.mem_map.mp hx
    refine ly_tup fun x hx => ?_
    simp only [List.mem_cons, List.not_mem_nil, or_false] at hx
    rcases hx with rfl | rfl
    · exact ly_int _ _
    · exact ly_brk _) (by decide) S
  unfold badV keeps
  rw [this]
  cases bad rels p <;> rfl
/-! ### odd words, widened tables -/
def oddW : List PV := [.str "", .str "And", .str "and ", .str "all", .str "odd", .str "no", .str "xor", .non, .int 0, .tup [.str "and"], .bl true, .lst [], .lst [.str "and"]]
theorem told_odd {v : PV} (h : v ∈ oddW) (S : Store) : m__law_told [v] S = .ok (.tup [.str "none", .str "word", .bl true]) S := by
  unfold oddW at h
  simp only [List.mem_cons, List.not_mem_nil, or_false] at h
  rcases h with rfl | rfl | rfl | rfl | rfl | rfl | rfl | rfl | rfl | rfl | rfl | rfl | rfl
  all_goals kernel_rfl
theorem table_of_ok {p : Str × List Int} (h : p ∈ sixL) (S : Store) : m_table_of [.str p.1] S = .ok (rowP p.2) S := by
  unfold sixL at h
  simp only [List.mem_cons, List.not_mem_nil, or_false] at h
  rcases h with rfl | rfl | rfl | rfl | rfl | rfl
  all_goals kernel_rfl
/-- the table of three places by the first m -/
def wide (m : Nat) (tb : List Int) : List Int := (List.range 8).map fun k => tb.getD (k / 2 ^ (3 - m)) 0
theorem bits_wide {m : Nat} {tb : List Int} (hb : Bits tb) : Bits (wide m tb) := fun b h => by
  obtain ⟨k, _, rfl⟩ := List.mem_map.mp h
  exact bit_at hb _
theorem three {m : Nat} (h1 : 1 ≤ m) (h3 : m ≤ 3) {tb : List Int} (hl : tb.length = 2 ^ m) : (m = 1 ∧ ∃ a b, tb = [a, b]) ∨ (m = 2 ∧ ∃ a b c d, tb = [a, b, c, d]) ∨ (m = 3 ∧ ∃ a b c d e f g h, tb = [a, b, c, d, e, f, g, h]) := by
  match m, h1, h3 with
  | 1, _, _ =>
    match tb, hl with
    | [a, b], _ => exact .inl ⟨rfl, a, b, rfl⟩
  | 2, _, _ =>
    match tb, hl with
    | [a, b, c, d], _ => exact .inr (.inl ⟨rfl, a, b, c, d, rfl⟩)
  | 3, _, _ =>
    match tb, hl with
    | [a, b, c, d, e, f, g, h], _ => exact .inr (.inr ⟨rfl, a, b, c, d, e, f, g, h, rfl⟩)
theorem widened_ok {m : Nat} (h1 : 1 ≤ m) (h3 : m ≤ 3) {tb : List Int} (hT : TabM m tb) (S : Store) : m_widened [rowP tb] S = .ok (rowP (wide m tb)) S := by
  rcases three h1 h3 hT.1 with ⟨rfl, a, b, rfl⟩ | ⟨rfl, a, b, c, d, rfl⟩ | ⟨rfl, a, b, c, d, e, f, g, h, rfl⟩
  all_goals kernel_rfl
theorem due_lc {m : Nat} (h1 : 1 ≤ m) (h3 : m ≤ 3) {tb : List Int} (hT : TabM m tb) (x0 x1 x2 x3 x4 x5 x6 x7 x9 x11 : Slot) (S : Store) : mLcGo (gNm 12) mTrue (mOp gIx (mVar 8) (mCall 1 m__law_place [] (mCons (mSl gSl (mVar 12) (fun _ S => .ok none S) (mPart (mVar 10))) mNil))) [x0, x1, x2, x3, x4, x5, x6, x7, .val (rowP tb), x9, .val (.int m), x11, .none] ((rowsE 3).map rowP) S = .ok ((wide m tb).map PV.int) S := by
  rcases three h1 h3 hT.1 with ⟨rfl, a, b, rfl⟩ | ⟨rfl, a, b, c, d, rfl⟩ | ⟨rfl, a, b, c, d, e, f, g, h, rfl⟩
  all_goals kernel_rfl
end K04
set_option maxHeartbeats 4000000
namespace K04
open PySem L2 Mir
def R_P : Rho → Store → Res Out := (mRet (mAndV (mOp (gEqD false) (mArgs gRepr (mCons (mCallK 1 m_widened (kbG 0 1) mNil (mCons (mVar 8) mNil)) mNil)) (mArgs gRepr (mCons (mVar 4) mNil))) (mOp (gEqD false) (mArgs gRepr (mCons (mCallK 1 m_table_of (kbG 0 1) mNil (mCons (mC (.str "or")) mNil)) mNil)) (mArgs gRepr (mCons (mArgs gTup (mCons (mC (.int 0)) (mCons (mC (.int 1)) (mCons (mC (.int 1)) (mCons (mC (.int 1)) mNil))))) mNil)))))
def R_O : Rho → Store → Res Out := (mSeq (mSet 4 (mArgs gTuple (mCons (mFrz (mLc (mSeqOf (mCall 1 m__law_every [] (mCons (mC (.int 3)) mNil))) (gNm 12) mTrue (mOp gIx (mVar 8) (mCall 1 m__law_place [] (mCons (mSl gSl (mVar 12) (fun _ S => .ok none S) (mPart (mVar 10))) mNil))) [12])) mNil))) R_P)
def R_N : Rho → Store → Res Out := (mSeq (mSet 8 (mCall 2 m__law_drawn_table [] (mCons (mVar 1) (mCons (mVar 10) mNil)))) R_O)
def R_M : Rho → Store → Res Out := (mSeq (mSet 10 (mOp gAddA (mC (.int 1)) (mCall 2 m__law_take [] (mCons (mVar 1) (mCons (mC (.int 3)) mNil))))) R_N)
def R_L : Rho → Store → Res Out := (mSeq (mIfS (mB (mOp (gEqD true) (mCall 1 m__law_told [] (mCons (mVar 9) mNil)) (mArgs gTup (mCons (mC (.str "none")) (mCons (mC (.str "word")) (mCons (mC (.bl true)) mNil)))))) (mRet (mC (.bl false))) mSkip) R_M)
def R_K : Rho → Store → Res Out := (mSeq (mSet 9 (mOp gIx (mFrz (mArgs gLst (mCons (mC (.str "")) (mCons (mC (.str "And")) (mCons (mC (.str "and ")) (mCons (mC (.str "all")) (mCons (mC (.str "odd")) (mCons (mC (.str "no")) (mCons (mC (.str "xor")) (mCons (mC .non) (mCons (mC (.int 0)) (mCons (mArgs gTup (mCons (mC (.str "and")) mNil)) (mCons (mC (.bl true)) (mCons (mFrz (mArgs gLst mNil)) (mCons (mFrz (mArgs gLst (mCons (mC (.str "and")) mNil))) mNil))))))))))))))) (mCall 2 m__law_take [] (mCons (mVar 1) (mCons (mC (.int 13)) mNil))))) R_L)
def R_J : Rho → Store → Res Out := (mSeq (mFor (mSeqOf (mCall 0 m__law_six [] mNil)) (gUn 2 (gsCons (gNm 7) (gsCons (gNm 8) gsNil))) (mIfS (mB (mOp (gEqD true) (mArgs gRepr (mCons (mCall 1 m_table_of [] (mCons (mVar 7) mNil)) mNil)) (mArgs gRepr (mCons (mVar 8) mNil)))) (mRet (mC (.bl false))) mSkip)) R_K)
def R_I : Rho → Store → Res Out := (mSeq (mIfS (mB (mOp (gEqD true) (mArgs gRepr (mCons (mCall 1 m_blamed [] (mCons (mVar 3) mNil)) mNil)) (mArgs gRepr (mCons (mVar 4) mNil)))) (mRet (mC (.bl false))) mSkip) R_J)
def R_H : Rho → Store → Res Out := (mSeq (mIfS (mB (mOp (gEqD true) (mArgs gRepr (mCons (mCallK 2 m_kept_by (kbG 0 2) mNil (mCons (mVar 3) (mCons (mC (.bl true)) mNil))) mNil)) (mArgs gRepr (mCons (mArgs gTuple (mCons (mFrz (mLc (mSeqOf (mVar 6)) (gNm 7) (mB (mOp (gInD false) (mVar 7) (mSl gSl (mVar 5) (mPart (mC (.int 2))) (fun _ S => .ok none S)))) (mVar 7) [7])) mNil)) mNil)))) (mRet (mC (.bl false))) mSkip) R_I)
def R_G : Rho → Store → Res Out := (mSeq (mIfS (mOr (mB (mOp (gEqD true) (mArgs gRepr (mCons (mCall 2 m_kept_by [(.bl false)] (mCons (mVar 3) mNil)) mNil)) (mArgs gRepr (mCons (mVar 6) mNil)))) (mB (mOp (gEqD true) (mArgs gRepr (mCons (mCallK 2 m_kept_by (kbG 1 1) (mCons (mVar 3) mNil) (mCons (mC (.bl false)) mNil)) mNil)) (mArgs gRepr (mCons (mVar 6) mNil))))) (mRet (mC (.bl false))) mSkip) R_H)
def R_F : Rho → Store → Res Out := (mSeq (mSet 6 (mArgs gTuple (mCons (mFrz (mLc (mRange gRange1 (mCons (mC (.int 6)) mNil)) (gNm 11) (mB (mOp (gEqD false) (mOp gIx (mVar 4) (mVar 11)) (mArgs gTup mNil))) (mOp gIx (mVar 5) (mVar 11)) [11])) mNil))) R_G)
def R_E : Rho → Store → Res Out := (mSeq (mSet 5 (mFrz (mLc (mSeqOf (mCall 0 m__law_six [] mNil)) (gTupM 2 (gsCons (gNm 7) (gsCons (gNm 8) gsNil))) mTrue (mVar 7) [7, 8]))) R_F)
def R_D : Rho → Store → Res Out := (mSeq (mSet 4 (mCall 1 m__law_blamed [] (mCons (mVar 2) mNil))) R_E)
def R_C : Rho → Store → Res Out := (mSeq (mSet 3 (mCall 1 m__law_book [] (mCons (mVar 2) mNil))) R_D)
def R_B : Rho → Store → Res Out := (mSeq (mSet 2 (mCall 1 m__law_drawn_book [] (mCons (mVar 1) mNil))) R_C)
def R_A : Rho → Store → Res Out := (mSeq (mShare 1 (mArgs gLst (mCons (mCall 2 m__law_draws [] (mCons (mVar 0) (mCons (mC (.int 200)) mNil))) (mCons (mC (.int 0)) mNil)))) R_B)
theorem R_eq : b_law = R_A := rfl

def Done (r : Res Out) : Prop := ∃ S', r = .ok (.rt (.bl true)) S'
theorem P_ok {m : Nat} (h1 : 1 ≤ m) (h3 : m ≤ 3) {tb : List Int} (hT : TabM m tb) (x0 x1 x2 x3 x5 x6 x7 x9 x10 x11 x12 : Slot) (S : Store) : Done (R_P [x0, x1, x2, x3, .val (rowP (wide m tb)), x5, x6, x7, .val (rowP tb), x9, x10, x11, x12] S) := by
  obtain ⟨s, hs⟩ := text_bits (bits_wide (m := m) hT.2) (by unfold wide; simp)
  obtain ⟨t, ht⟩ := text_bits (r := [0, 1, 1, 1]) (bits_by (by decide)) (by decide)
  have wd := fun S => widened_ok h1 h3 hT S
  have to : ∀ S, m_table_of [.str "or"] S = .ok (rowP [0, 1, 1, 1]) S := fun S => table_of_ok (p := ("or", [0, 1, 1, 1])) (by unfold sixL; simp) S
  have ht : ∀ S, gRepr [.tup [.int 0, .int 1, .int 1, .int 1]] S = .ok (.str t) S := ht
  have to : ∀ S, m_table_of [.str "or"] S = .ok (.tup [.int 0, .int 1, .int 1, .int 1]) S := to
  refine ⟨S, ?_⟩
  unfold R_P
  simp only [ev_bind, ev_nox, ev_seq, ev_set, ev_setOwn, ev_share, ev_drop, ev_ret, ev_retOwn, ev_skip, ev_brk, ev_cnt, ev_ifS, ev_frzS, ev_append, ev_setIx, ev_for, ev_lc, ev_seqOf, ev_range, ev_var, ev_c, ev_op, ev_un, ev_args, ev_nil, ev_cons, ev_frz, ev_b, ev_and, ev_or, ev_not, ev_andV, ev_orV, ev_notV, ev_if, ev_chain, ev_isi, ev_ixOwn, ev_lenOwn, ev_call, ev_callK, ev_sl, ev_part, ev_true, ev_nm, ev_toB, frz, frzAt, toSeq_tup, toSeq_lst, toSeq_cl, toRet, mWipe, kbG, Mir.gTup, Mir.gLst, List.getElem?_cons_zero, List.getElem?_cons_succ, List.set_cons_zero, List.set_cons_succ, List.length_cons, List.length_nil, List.append_nil, List.nil_append, List.cons_append, Nat.reduceAdd, Nat.reduceLeDiff, Nat.reduceEqDiff, Nat.zero_add, reduceIte, Bool.false_eq_true, Bool.not_true, Bool.not_false, and_self, sizeM_eq, if_true, wd, hs, eqD_str, decide_true, to, ht]
theorem O_ok {m : Nat} (h1 : 1 ≤ m) (h3 : m ≤ 3) {tb : List Int} (hT : TabM m tb) (x0 x1 x2 x3 x4 x5 x6 x7 x9 x11 x12 : Slot) (S : Store) : Done (R_O [x0, x1, x2, x3, x4, x5, x6, x7, .val (rowP tb), x9, .val (.int m), x11, x12] S) := by
  have t := P_ok h1 h3 hT x0 x1 x2 x3 x5 x6 x7 x9 (.val (.int m)) x11 x12 S
  have lc := due_lc h1 h3 hT x0 x1 x2 x3 x4 x5 x6 x7 x9 x11 S
  have ev : ∀ S, m__law_every [.int 3] S = .ok (.lst ((rowsE 3).map rowP)) S := fun S => every_ok (n := 3) (by decide) S
  have z : ((rowsE 3).map rowP).length ≤ 100000 := by decide
  unfold R_O
  simp only [ev_bind, ev_nox, ev_seq, ev_set, ev_setOwn, ev_share, ev_drop, ev_ret, ev_retOwn, ev_skip, ev_brk, ev_cnt, ev_ifS, ev_frzS, ev_append, ev_setIx, ev_for, ev_lc, ev_seqOf, ev_range, ev_var, ev_c, ev_op, ev_un, ev_args, ev_nil, ev_cons, ev_frz, ev_b, ev_and, ev_or, ev_not, ev_andV, ev_orV, ev_notV, ev_if, ev_chain, ev_isi, ev_ixOwn, ev_lenOwn, ev_call, ev_callK, ev_sl, ev_part, ev_true, ev_nm, ev_toB, frz, frzAt, toSeq_tup, toSeq_lst, toSeq_cl, toRet, mWipe, kbG, Mir.gTup, Mir.gLst, List.getElem?_cons_zero, List.getElem?_cons_succ, List.set_cons_zero, List.set_cons_succ, List.length_cons, List.length_nil, List.append_nil, List.nil_append, List.cons_append, Nat.reduceAdd, Nat.reduceLeDiff, Nat.reduceEqDiff, Nat.zero_add, reduceIte, Bool.false_eq_true, Bool.not_true, Bool.not_false, and_self, sizeM_eq, ev, z, lc, gTuple]
  exact t
theorem MN_ok (x0 x2 x3 x4 x5 x6 x7 x8 x9 x10 x11 x12 : Slot) {S : Store} (h : Hand S []) : Done (R_M [x0, .val (.obj 0), x2, x3, x4, x5, x6, x7, x8, x9, x10, x11, x12] S) := by
  obtain ⟨u, S1, e1, g1, u0, u1⟩ := takeq (many := 3) h (by decide)
  obtain ⟨m, hm⟩ : ∃ m : Nat, 1 + u = m := ⟨(1 + u).toNat, by omega⟩
  obtain ⟨tb, S2, e2, g2, hT⟩ := table_drawn g1 (m := m) (by omega) (by omega)
  have t := O_ok (m := m) (by omega) (by omega) hT x0 (.val (.obj 0)) x2 x3 x4 x5 x6 x7 x9 x11 x12 S2
  unfold R_M R_N
  rw [d_take, d_table]
  simp only [ev_bind, ev_nox, ev_seq, ev_set, ev_setOwn, ev_share, ev_drop, ev_ret, ev_retOwn, ev_skip, ev_brk, ev_cnt, ev_ifS, ev_frzS, ev_append, ev_setIx, ev_for, ev_lc, ev_seqOf, ev_range, ev_var, ev_c, ev_op, ev_un, ev_args, ev_nil, ev_cons, ev_frz, ev_b, ev_and, ev_or, ev_not, ev_andV, ev_orV, ev_notV, ev_if, ev_chain, ev_isi, ev_ixOwn, ev_lenOwn, ev_call, ev_callK, ev_sl, ev_part, ev_true, ev_nm, ev_toB, frz, frzAt, toSeq_tup, toSeq_lst, toSeq_cl, toRet, mWipe, kbG, Mir.gTup, Mir.gLst, List.getElem?_cons_zero, List.getElem?_cons_succ, List.set_cons_zero, List.set_cons_succ, List.length_cons, List.length_nil, List.append_nil, List.nil_append, List.cons_append, Nat.reduceAdd, Nat.reduceLeDiff, Nat.reduceEqDiff, Nat.zero_add, reduceIte, Bool.false_eq_true, Bool.not_true, Bool.not_false, and_self, sizeM_eq, gAddA, gAdd, e1, hm, e2]
  exact t
theorem K_ok (x0 x2 x3 x4 x5 x6 x7 x8 x9 x10 x11 x12 : Slot) {S : Store} (h : Hand S []) : Done (R_K [x0, .val (.obj 0), x2, x3, x4, x5, x6, x7, x8, x9, x10, x11, x12] S) := by
  obtain ⟨u, S1, e1, g1, u0, u1⟩ := takeq (many := 13) h (by decide)
  obtain ⟨v, ev, hv⟩ := at_mem (xs := oddW) u0 u1
  have t := MN_ok x0 x2 x3 x4 x5 x6 x7 x8 (.val v) x10 x11 x12 g1
  have to := fun S => told_odd hv S
  have ne : ∀ S, gEqD true (.tup [.str "none", .str "word", .bl true]) (.tup [.str "none", .str "word", .bl true]) S = .ok (.bl false) S := fun S => by kernel_rfl
  unfold oddW at ev
  unfold R_K R_L
  rw [d_take]
  simp only [ev_bind, ev_nox, ev_seq, ev_set, ev_setOwn, ev_share, ev_drop, ev_ret, ev_retOwn, ev_skip, ev_brk, ev_cnt, ev_ifS, ev_frzS, ev_append, ev_setIx, ev_for, ev_lc, ev_seqOf, ev_range, ev_var, ev_c, ev_op, ev_un, ev_args, ev_nil, ev_cons, ev_frz, ev_b, ev_and, ev_or, ev_not, ev_andV, ev_orV, ev_notV, ev_if, ev_chain, ev_isi, ev_ixOwn, ev_lenOwn, ev_call, ev_callK, ev_sl, ev_part, ev_true, ev_nm, ev_toB, frz, frzAt, toSeq_tup, toSeq_lst, toSeq_cl, toRet, mWipe, kbG, Mir.gTup, Mir.gLst, List.getElem?_cons_zero, List.getElem?_cons_succ, List.set_cons_zero, List.set_cons_succ, List.length_cons, List.length_nil, List.append_nil, List.nil_append, List.cons_append, Nat.reduceAdd, Nat.reduceLeDiff, Nat.reduceEqDiff, Nat.zero_add, reduceIte, Bool.false_eq_true, Bool.not_true, Bool.not_false, and_self, sizeM_eq, e1, ix_l, ev, to, ne]
  exact t
def B_tab : Rho → Store → Res Out := (mIfS (mB (mOp (gEqD true) (mArgs gRepr (mCons (mCall 1 m_table_of [] (mCons (mVar 7) mNil)) mNil)) (mArgs gRepr (mCons (mVar 8) mNil))))
    (mRet (mC (.bl false)))
    mSkip)
theorem J_ok (x0 x2 x3 x4 x5 x6 x7 x8 x9 x10 x11 x12 : Slot) {S : Store} (h : Hand S []) : Done (R_J [x0, .val (.obj 0), x2, x3, x4, x5, x6, x7, x8, x9, x10, x11, x12] S) := by
  obtain ⟨ρ', S', e, rfl, t7, t8, rfl⟩ := for_map (g := gUn 2 (gsCons (gNm 7) (gsCons (gNm 8) gsNil))) (b := B_tab) sixV (ps := sixL)
    (fun pre ρ S' => S' = S ∧ ∃ t7 t8, ρ = [x0, .val (.obj 0), x2, x3, x4, x5, x6, t7, t8, x9, x10, x11, x12]) (by
      rintro pre p post ρ S' ex ⟨rfl, t7, t8, rfl⟩
      have hp : p ∈ sixL := by rw [ex]; simp
      obtain ⟨m1, m3, hT⟩ := six_of hp
      have a2 : 2 ^ mOf p ≤ 2 ^ 3 := Nat.pow_le_pow_right (by decide) m3
      obtain ⟨s, hs⟩ := text_bits hT.2 (by rw [hT.1]; omega)
      have to := fun S => table_of_ok hp S
      refine ⟨[x0, .val (.obj 0), x2, x3, x4, x5, x6, .val (.str p.1), .val (rowP p.2), x9, x10, x11, x12], S', .inl ?_, rfl, _, _, rfl⟩
      unfold B_tab sixV
      simp only [ev_bindExc, ev_asg, ev_unTup, ev_unLst, ev_tupM, ev_gsCons, ev_gsNil, ev_raise, ev_tryL, ev_tryOk, ev_tryExc, ev_tryB, ev_tryBOk, ev_tryBExc, endS_rtE, endS_nxE, ev_kin, ev_kget, ev_index, eqD_int, neD_int, ev_bind, ev_nox, ev_seq, ev_set, ev_setOwn, ev_share, ev_drop, ev_ret, ev_retOwn, ev_skip, ev_brk, ev_cnt, ev_ifS, ev_frzS, ev_append, ev_setIx, ev_for, ev_lc, ev_seqOf, ev_range, ev_var, ev_c, ev_op, ev_un, ev_args, ev_nil, ev_cons, ev_frz, ev_b, ev_and, ev_or, ev_not, ev_andV, ev_orV, ev_notV, ev_if, ev_chain, ev_isi, ev_ixOwn, ev_lenOwn, ev_call, ev_callK, ev_sl, ev_part, ev_true, ev_nm, ev_toB, frz, frzAt, toSeq_tup, toSeq_lst, toSeq_cl, toRet, mWipe, kbG, Mir.gTup, Mir.gLst, List.getElem?_cons_zero, List.getElem?_cons_succ, List.set_cons_zero, List.set_cons_succ, List.length_cons, List.length_nil, List.append_nil, List.nil_append, List.cons_append, Nat.reduceAdd, Nat.reduceLeDiff, Nat.reduceEqDiff, Nat.zero_add, reduceIte, Bool.false_eq_true, Bool.not_true, Bool.not_false, and_self, sizeM_eq, to, hs, neD_str, decide_true]) [x0, .val (.obj 0), x2, x3, x4, x5, x6, x7, x8, x9, x10, x11, x12] S ⟨rfl, _, _, rfl⟩
  have t := K_ok x0 x2 x3 x4 x5 x6 t7 t8 x9 x10 x11 x12 h
  unfold B_tab at e
  unfold R_J
  rw [d_six]
  simp only [ev_bind, ev_nox, ev_seq, ev_set, ev_setOwn, ev_share, ev_drop, ev_ret, ev_retOwn, ev_skip, ev_brk, ev_cnt, ev_ifS, ev_frzS, ev_append, ev_setIx, ev_for, ev_lc, ev_seqOf, ev_range, ev_var, ev_c, ev_op, ev_un, ev_args, ev_nil, ev_cons, ev_frz, ev_b, ev_and, ev_or, ev_not, ev_andV, ev_orV, ev_notV, ev_if, ev_chain, ev_isi, ev_ixOwn, ev_lenOwn, ev_call, ev_callK, ev_sl, ev_part, ev_true, ev_nm, ev_toB, frz, frzAt, toSeq_tup, toSeq_lst, toSeq_cl, toRet, mWipe, kbG, Mir.gTup, Mir.gLst, List.getElem?_cons_zero, List.getElem?_cons_succ, List.set_cons_zero, List.set_cons_succ, List.length_cons, List.length_nil, List.append_nil, List.nil_append, List.cons_append, Nat.reduceAdd, Nat.reduceLeDiff, Nat.reduceEqDiff, Nat.zero_add, reduceIte, Bool.false_eq_true, Bool.not_true, Bool.not_false, and_self, sizeM_eq, six_ok, e]
  exact t
structure Cz (rels : List Rl) : Prop where
  ok : BkOk rels
  few : rels.length ≤ 3
theorem I_ok {rels : List Rl} (z : Cz rels) (x0 x2 x5 x6 x7 x8 x9 x10 x11 x12 : Slot) {S : Store} (h : Hand S []) : Done (R_I [x0, .val (.obj 0), x2, .val (bookV rels), .val (.tup (sixL.map (badV rels))), x5, x6, x7, x8, x9, x10, x11, x12] S) := by
  obtain ⟨s, hs⟩ := text_bad z.ok z.few
  have bl := fun S => blamed_ok z.ok S
  have t := J_ok x0 x2 (.val (bookV rels)) (.val (.tup (sixL.map (badV rels)))) x5 x6 x7 x8 x9 x10 x11 x12 h
  unfold R_I
  simp only [ev_bind, ev_nox, ev_seq, ev_set, ev_setOwn, ev_share, ev_drop, ev_ret, ev_retOwn, ev_skip, ev_brk, ev_cnt, ev_ifS, ev_frzS, ev_append, ev_setIx, ev_for, ev_lc, ev_seqOf, ev_range, ev_var, ev_c, ev_op, ev_un, ev_args, ev_nil, ev_cons, ev_frz, ev_b, ev_and, ev_or, ev_not, ev_andV, ev_orV, ev_notV, ev_if, ev_chain, ev_isi, ev_ixOwn, ev_lenOwn, ev_call, ev_callK, ev_sl, ev_part, ev_true, ev_nm, ev_toB, frz, frzAt, toSeq_tup, toSeq_lst, toSeq_cl, toRet, mWipe, kbG, Mir.gTup, Mir.gLst, List.getElem?_cons_zero, List.getElem?_cons_succ, List.set_cons_zero, List.set_cons_succ, List.length_cons, List.length_nil, List.append_nil, List.nil_append, List.cons_append, Nat.reduceAdd, Nat.reduceLeDiff, Nat.reduceEqDiff, Nat.zero_add, reduceIte, Bool.false_eq_true, Bool.not_true, Bool.not_false, and_self, sizeM_eq, bl, hs, neD_str, decide_true]
  exact t
theorem filt_app {α : Type} {q f : α → Bool} {A B : List α} (n : ∀ p ∈ A, q p = false) (y : ∀ p ∈ B, q p = true) : (A ++ B).filter (fun p => q p && f p) = B.filter f := by
  rw [List.filter_append]
  have f1 : A.filter (fun p => q p && f p) = [] := List.filter_eq_nil_iff.mpr fun p hp => by rw [n p hp]; simp
  rw [f1, List.nil_append]
  exact List.filter_congr fun p hp => by rw [y p hp, Bool.true_and]
theorem zip_filt {α : Type} (f : α → Bool) : ∀ (l : List α) (k : Nat), ((l.zipIdx k).filter fun x => f x.1).map (·.1) = l.filter f
  | [], _ => rfl
  | x :: l, k => by
    rw [List.zipIdx_cons, List.filter_cons, List.filter_cons]
    cases q : f x with
    | true => simp only [if_true, List.map_cons, zip_filt f l (k + 1)]
    | false => simp only [Bool.false_eq_true, if_false, zip_filt f l (k + 1)]
theorem fixed_same (rels : List Rl) : (keptL rels).filter (fun p => (sixL.drop 2).any fun q => decide (q.1 = p.1)) = (sixL.drop 2).filter (keeps rels) := by
  have e : ∀ p ∈ keptL rels, ((sixL.drop 2).any fun q => decide (q.1 = p.1)) = decide (p ∈ sixL.drop 2) := by
    have key : ∀ p ∈ sixL, ((sixL.drop 2).any fun q => decide (q.1 = p.1)) = decide (p ∈ sixL.drop 2) := by decide +kernel
    exact fun p hp => key p (List.mem_filter.mp hp).1
  rw [List.filter_congr e]
  unfold keptL
  rw [List.filter_filter]
  have n : ∀ p ∈ sixL.take 2, decide (p ∈ sixL.drop 2) = false := by decide +kernel
  have y : ∀ p ∈ sixL.drop 2, decide (p ∈ sixL.drop 2) = true := fun p hp => decide_eq_true hp
  have := filt_app (f := keeps rels) n y
  rw [List.take_append_drop] at this
  exact this
theorem in_words {p : Str × List Int} (h : p ∈ sixL) (S : Store) : gInD false (.str p.1) (.lst ((sixL.drop 2).map fun q => PV.str q.1)) S = .ok (.bl ((sixL.drop 2).any fun q => decide (q.1 = p.1))) S := by
  unfold sixL at h
  simp only [List.mem_cons, List.not_mem_nil, or_false] at h
  rcases h with rfl | rfl | rfl | rfl | rfl | rfl
  all_goals kernel_rfl
theorem H_ok {rels : List Rl} (z : Cz rels) (x0 x2 x7 x8 x9 x10 x11 x12 : Slot) {S : Store} (h : Hand S []) : Done (R_H [x0, .val (.obj 0), x2, .val (bookV rels), .val (.tup (sixL.map (badV rels))), .val (.lst (sixL.map wordV)), .val (.tup ((keptL rels).map wordV)), x7, x8, x9, x10, x11, x12] S) := by
  have t := I_ok z x0 x2 (.val (.lst (sixL.map wordV))) (.val (.tup ((keptL rels).map wordV))) x7 x8 x9 x10 x11 x12 h
  obtain ⟨s, hs⟩ := text_words (ws := (sixL.drop 2).filter (keeps rels)) (List.filter_sublist.trans (List.drop_sublist 2 sixL))
  have fx := fun S => fixed_ok z.ok S
  have c : cutP (sixL.map wordV) (some 2) none = (sixL.drop 2).map wordV := by
    have := cutD (sixL.map wordV) 2
    rw [← List.map_drop] at this
    exact this
  have lc := lc_filterL (g := gNm 7) (t := mB (mOp (gInD false) (mVar 7) (mSl gSl (mVar 5) (mPart (mC (.int 2))) (fun _ S => .ok none S)))) (a := mVar 7) (ρ := [x0, .val (.obj 0), x2, .val (bookV rels), .val (.tup (sixL.map (badV rels))), .val (.lst (sixL.map wordV)), .val (.tup ((keptL rels).map wordV)), .none, x8, x9, x10, x11, x12]) (S := S)
    wordV wordV (fun p => (sixL.drop 2).any fun q => decide (q.1 = p.1)) (ps := keptL rels) (fun p hp => by
      refine ⟨_, rfl, ?_, fun _ => rfl⟩
      unfold wordV at c ⊢
      simp only [ev_bind, ev_nox, ev_seq, ev_set, ev_setOwn, ev_share, ev_drop, ev_ret, ev_retOwn, ev_skip, ev_brk, ev_cnt, ev_ifS, ev_frzS, ev_append, ev_setIx, ev_for, ev_lc, ev_seqOf, ev_range, ev_var, ev_c, ev_op, ev_un, ev_args, ev_nil, ev_cons, ev_frz, ev_b, ev_and, ev_or, ev_not, ev_andV, ev_orV, ev_notV, ev_if, ev_chain, ev_isi, ev_ixOwn, ev_lenOwn, ev_call, ev_callK, ev_sl, ev_part, ev_true, ev_nm, ev_toB, frz, frzAt, toSeq_tup, toSeq_lst, toSeq_cl, toRet, mWipe, kbG, Mir.gTup, Mir.gLst, List.getElem?_cons_zero, List.getElem?_cons_succ, List.set_cons_zero, List.set_cons_succ, List.length_cons, List.length_nil, List.append_nil, List.nil_append, List.cons_append, Nat.reduceAdd, Nat.reduceLeDiff, Nat.reduceEqDiff, Nat.zero_add, reduceIte, Bool.false_eq_true, Bool.not_true, Bool.not_false, and_self, sizeM_eq, gSl, c, in_words (List.mem_filter.mp hp).1])
  rw [fixed_same] at lc
  have zl : (keptL rels).length ≤ 100000 := by
    have h1 := List.length_filter_le (keeps rels) sixL
    have l6 : sixL.length = 6 := rfl
    unfold keptL
    omega
  unfold R_H
  simp only [ev_bind, ev_nox, ev_seq, ev_set, ev_setOwn, ev_share, ev_drop, ev_ret, ev_retOwn, ev_skip, ev_brk, ev_cnt, ev_ifS, ev_frzS, ev_append, ev_setIx, ev_for, ev_lc, ev_seqOf, ev_range, ev_var, ev_c, ev_op, ev_un, ev_args, ev_nil, ev_cons, ev_frz, ev_b, ev_and, ev_or, ev_not, ev_andV, ev_orV, ev_notV, ev_if, ev_chain, ev_isi, ev_ixOwn, ev_lenOwn, ev_call, ev_callK, ev_sl, ev_part, ev_true, ev_nm, ev_toB, frz, frzAt, toSeq_tup, toSeq_lst, toSeq_cl, toRet, mWipe, kbG, Mir.gTup, Mir.gLst, List.getElem?_cons_zero, List.getElem?_cons_succ, List.set_cons_zero, List.set_cons_succ, List.length_cons, List.length_nil, List.append_nil, List.nil_append, List.cons_append, Nat.reduceAdd, Nat.reduceLeDiff, Nat.reduceEqDiff, Nat.zero_add, reduceIte, Bool.false_eq_true, Bool.not_true, Bool.not_false, and_self, sizeM_eq, fx, hs, List.length_map, zl, lc, gTuple, neD_str, decide_true]
  exact t
theorem G_ok {rels : List Rl} (z : Cz rels) (x0 x2 x7 x8 x9 x10 x11 x12 : Slot) {S : Store} (h : Hand S []) : Done (R_G [x0, .val (.obj 0), x2, .val (bookV rels), .val (.tup (sixL.map (badV rels))), .val (.lst (sixL.map wordV)), .val (.tup ((keptL rels).map wordV)), x7, x8, x9, x10, x11, x12] S) := by
  have t := H_ok z x0 x2 x7 x8 x9 x10 x11 x12 h
  obtain ⟨s, hs⟩ := text_words (ws := keptL rels) List.filter_sublist
  have kp := fun S => kept_ok z.ok S
  unfold R_G
  simp only [ev_bind, ev_nox, ev_seq, ev_set, ev_setOwn, ev_share, ev_drop, ev_ret, ev_retOwn, ev_skip, ev_brk, ev_cnt, ev_ifS, ev_frzS, ev_append, ev_setIx, ev_for, ev_lc, ev_seqOf, ev_range, ev_var, ev_c, ev_op, ev_un, ev_args, ev_nil, ev_cons, ev_frz, ev_b, ev_and, ev_or, ev_not, ev_andV, ev_orV, ev_notV, ev_if, ev_chain, ev_isi, ev_ixOwn, ev_lenOwn, ev_call, ev_callK, ev_sl, ev_part, ev_true, ev_nm, ev_toB, frz, frzAt, toSeq_tup, toSeq_lst, toSeq_cl, toRet, mWipe, kbG, Mir.gTup, Mir.gLst, List.getElem?_cons_zero, List.getElem?_cons_succ, List.set_cons_zero, List.set_cons_succ, List.length_cons, List.length_nil, List.append_nil, List.nil_append, List.cons_append, Nat.reduceAdd, Nat.reduceLeDiff, Nat.reduceEqDiff, Nat.zero_add, reduceIte, Bool.false_eq_true, Bool.not_true, Bool.not_false, and_self, sizeM_eq, kp, hs, neD_str, decide_true]
  exact t
theorem EF_ok {rels : List Rl} (z : Cz rels) (x0 x2 x5 x6 x7 x8 x9 x10 x11 x12 : Slot) {S : Store} (h : Hand S []) : Done (R_E [x0, .val (.obj 0), x2, .val (bookV rels), .val (.tup (sixL.map (badV rels))), x5, x6, x7, x8, x9, x10, x11, x12] S) := by
  have t := G_ok z x0 x2 x7 x8 x9 x10 x11 x12 h
  have l1 := lc_mapL (g := gTupM 2 (gsCons (gNm 7) (gsCons (gNm 8) gsNil))) (t := mTrue) (a := mVar 7) (ρ := [x0, .val (.obj 0), x2, .val (bookV rels), .val (.tup (sixL.map (badV rels))), x5, x6, .none, .none, x9, x10, x11, x12]) (S := S) sixV wordV (ps := sixL) (fun p _ => ⟨_, rfl, rfl, rfl⟩)
  have l2 := lc_filterL (g := gNm 11) (t := mB (mOp (gEqD false) (mOp gIx (mVar 4) (mVar 11)) (mArgs Mir.gTup mNil))) (a := mOp gIx (mVar 5) (mVar 11)) (ρ := [x0, .val (.obj 0), x2, .val (bookV rels), .val (.tup (sixL.map (badV rels))), .val (.lst (sixL.map wordV)), x6, x7, x8, x9, x10, .none, x12]) (S := S)
    (fun x : (Str × List Int) × Nat => PV.int (x.2 : Nat)) (fun x => wordV x.1) (fun x => keeps rels x.1) (ps := sixL.zipIdx) (by
      rintro ⟨p, i⟩ hx
      have hi : sixL[i]? = some p := List.mem_zipIdx_iff_getElem?.mp hx
      have il : i < sixL.length := (List.getElem?_eq_some_iff.mp hi).1
      have at_ : ∀ {f : (Str × List Int) → PV}, atI (sixL.map f) (i : Int) = some (f p) := fun {f} => by
        obtain ⟨hj, ea⟩ := atI_ok (xs := sixL.map f) (i := (i : Int)) (by omega) (by rw [List.length_map]; omega)
        rw [ea, List.getElem_map]
        have e2 := (List.getElem?_eq_some_iff.mp hi).2
        simp only [Int.toNat_natCast, e2]
      have eb := fun S => eq_bad rels p S
      refine ⟨_, rfl, ?_, fun _ => ?_⟩
      · simp only [ev_bind, ev_nox, ev_seq, ev_set, ev_setOwn, ev_share, ev_drop, ev_ret, ev_retOwn, ev_skip, ev_brk, ev_cnt, ev_ifS, ev_frzS, ev_append, ev_setIx, ev_for, ev_lc, ev_seqOf, ev_range, ev_var, ev_c, ev_op, ev_un, ev_args, ev_nil, ev_cons, ev_frz, ev_b, ev_and, ev_or, ev_not, ev_andV, ev_orV, ev_notV, ev_if, ev_chain, ev_isi, ev_ixOwn, ev_lenOwn, ev_call, ev_callK, ev_sl, ev_part, ev_true, ev_nm, ev_toB, frz, frzAt, toSeq_tup, toSeq_lst, toSeq_cl, toRet, mWipe, kbG, Mir.gTup, Mir.gLst, List.getElem?_cons_zero, List.getElem?_cons_succ, List.set_cons_zero, List.set_cons_succ, List.length_cons, List.length_nil, List.append_nil, List.nil_append, List.cons_append, Nat.reduceAdd, Nat.reduceLeDiff, Nat.reduceEqDiff, Nat.zero_add, reduceIte, Bool.false_eq_true, Bool.not_true, Bool.not_false, and_self, sizeM_eq, ix_t, at_, eb]
      · simp only [ev_bind, ev_nox, ev_seq, ev_set, ev_setOwn, ev_share, ev_drop, ev_ret, ev_retOwn, ev_skip, ev_brk, ev_cnt, ev_ifS, ev_frzS, ev_append, ev_setIx, ev_for, ev_lc, ev_seqOf, ev_range, ev_var, ev_c, ev_op, ev_un, ev_args, ev_nil, ev_cons, ev_frz, ev_b, ev_and, ev_or, ev_not, ev_andV, ev_orV, ev_notV, ev_if, ev_chain, ev_isi, ev_ixOwn, ev_lenOwn, ev_call, ev_callK, ev_sl, ev_part, ev_true, ev_nm, ev_toB, frz, frzAt, toSeq_tup, toSeq_lst, toSeq_cl, toRet, mWipe, kbG, Mir.gTup, Mir.gLst, List.getElem?_cons_zero, List.getElem?_cons_succ, List.set_cons_zero, List.set_cons_succ, List.length_cons, List.length_nil, List.append_nil, List.nil_append, List.cons_append, Nat.reduceAdd, Nat.reduceLeDiff, Nat.reduceEqDiff, Nat.zero_add, reduceIte, Bool.false_eq_true, Bool.not_true, Bool.not_false, and_self, sizeM_eq, ix_l, at_])
  have eK : ((sixL.zipIdx.filter fun x => keeps rels x.1).map fun x => wordV x.1) = (keptL rels).map wordV := by
    have h1 : ((sixL.zipIdx.filter fun x => keeps rels x.1).map (·.1)) = keptL rels := zip_filt (keeps rels) sixL 0
    rw [← h1, List.map_map]
    rfl
  rw [eK] at l2
  have l2 : mLcGo (gNm 11) (mB (mOp (gEqD false) (mOp gIx (mVar 4) (mVar 11)) (mArgs Mir.gTup mNil))) (mOp gIx (mVar 5) (mVar 11)) [x0, .val (.obj 0), x2, .val (bookV rels), .val (.tup (sixL.map (badV rels))), .val (.lst (sixL.map wordV)), x6, x7, x8, x9, x10, .none, x12] (rng 6) S = .ok ((keptL rels).map wordV) S := l2
  have z6 : (sixL.map sixV).length ≤ 100000 := by decide
  have r6 : ∀ S, gRange1 [.int 6] S = .ok (rng 6) S := fun S => rngN (n := 6) (by decide) S
  unfold R_E R_F
  rw [d_six]
  simp only [ev_bind, ev_nox, ev_seq, ev_set, ev_setOwn, ev_share, ev_drop, ev_ret, ev_retOwn, ev_skip, ev_brk, ev_cnt, ev_ifS, ev_frzS, ev_append, ev_setIx, ev_for, ev_lc, ev_seqOf, ev_range, ev_var, ev_c, ev_op, ev_un, ev_args, ev_nil, ev_cons, ev_frz, ev_b, ev_and, ev_or, ev_not, ev_andV, ev_orV, ev_notV, ev_if, ev_chain, ev_isi, ev_ixOwn, ev_lenOwn, ev_call, ev_callK, ev_sl, ev_part, ev_true, ev_nm, ev_toB, frz, frzAt, toSeq_tup, toSeq_lst, toSeq_cl, toRet, mWipe, kbG, Mir.gTup, Mir.gLst, List.getElem?_cons_zero, List.getElem?_cons_succ, List.set_cons_zero, List.set_cons_succ, List.length_cons, List.length_nil, List.append_nil, List.nil_append, List.cons_append, Nat.reduceAdd, Nat.reduceLeDiff, Nat.reduceEqDiff, Nat.zero_add, reduceIte, Bool.false_eq_true, Bool.not_true, Bool.not_false, and_self, sizeM_eq, six_ok, z6, l1, r6, rngN_len, l2, gTuple]
  exact t
theorem law_true (ns : List Int) (hl : ns.length ≤ 63) : ∃ S, m_law [.cl (ns.map PV.int)] [] = .ok (.bl true) S := by
  obtain ⟨ds, _, hd, e0⟩ := draws_ok (ns := ns) (n := 200) (by decide) (by omega) []
  have e0 : m__law_draws [.cl (ns.map PV.int), .int 200] [] = .ok (.lst (ds.map PV.int)) [] := e0
  have g0 : Hand [SO.lst [.lst (ds.map PV.int), .int 0]] [] := ⟨ds, 0, rfl, by decide, hd⟩
  obtain ⟨rels, S1, e1, g1, hB, hf⟩ := drawn_book g0
  have lb := fun S => lbook_ok hB S
  have bl := fun S => lblamed_ok hB S
  obtain ⟨S2, e2⟩ := EF_ok ⟨hB, hf⟩ (.val (.cl (ns.map PV.int))) (.val (.lst (rels.map plP))) .none .none .none .none .none .none .none .none g1
  refine ⟨S2, ?_⟩
  show (b_law [.val (.cl (ns.map PV.int)), .none, .none, .none, .none, .none, .none, .none, .none, .none, .none, .none, .none] []).bind toRet = _
  rw [R_eq]
  unfold R_A R_B R_C R_D
  rw [d_dbook, d_lbook]
  simp only [ev_bind, ev_nox, ev_seq, ev_set, ev_setOwn, ev_share, ev_drop, ev_ret, ev_retOwn, ev_skip, ev_brk, ev_cnt, ev_ifS, ev_frzS, ev_append, ev_setIx, ev_for, ev_lc, ev_seqOf, ev_range, ev_var, ev_c, ev_op, ev_un, ev_args, ev_nil, ev_cons, ev_frz, ev_b, ev_and, ev_or, ev_not, ev_andV, ev_orV, ev_notV, ev_if, ev_chain, ev_isi, ev_ixOwn, ev_lenOwn, ev_call, ev_callK, ev_sl, ev_part, ev_true, ev_nm, ev_toB, frz, frzAt, toSeq_tup, toSeq_lst, toSeq_cl, toRet, mWipe, kbG, Mir.gTup, Mir.gLst, List.getElem?_cons_zero, List.getElem?_cons_succ, List.set_cons_zero, List.set_cons_succ, List.length_cons, List.length_nil, List.append_nil, List.nil_append, List.cons_append, Nat.reduceAdd, Nat.reduceLeDiff, Nat.reduceEqDiff, Nat.zero_add, reduceIte, Bool.false_eq_true, Bool.not_true, Bool.not_false, and_self, sizeM_eq, e0, e1, lb, bl, e2]
end K04
set_option maxHeartbeats 0
namespace K04
open PySem PySem.Spec PyProof.Rows L2 Mir
/-! ### the head -/
def dd_is_bit : He.DefD := ⟨("is_bit", none), "is_bit", "is_bit", defArgs s_is_bit, defBody s_is_bit, defScope s_is_bit, [], []⟩
def dd_is_table : He.DefD := ⟨("is_table", none), "is_table", "is_table", defArgs s_is_table, defBody s_is_table, defScope s_is_table, [], []⟩
def dd_number_of : He.DefD := ⟨("number_of", none), "number_of", "number_of", defArgs s_number_of, defBody s_number_of, defScope s_number_of, [], []⟩
def dd_spelled : He.DefD := ⟨("spelled", none), "spelled", "spelled", defArgs s_spelled, defBody s_spelled, defScope s_spelled, [], []⟩
def dd_made_row : He.DefD := ⟨("made_row", none), "made_row", "made_row", defArgs s_made_row, defBody s_made_row, defScope s_made_row, [], []⟩
def dd_tuples_of : He.DefD := ⟨("tuples_of", none), "tuples_of", "tuples_of", defArgs s_tuples_of, defBody s_tuples_of, defScope s_tuples_of, [], []⟩
def dd_break_in : He.DefD := ⟨("break_in", none), "break_in", "break_in", defArgs s_break_in, defBody s_break_in, defScope s_break_in, [], []⟩
def dd_break_of : He.DefD := ⟨("break_of", none), "break_of", "break_of", defArgs s_break_of, defBody s_break_of, defScope s_break_of, [], []⟩
def dd_table_of : He.DefD := ⟨("table_of", none), "table_of", "table_of", defArgs s_table_of, defBody s_table_of, defScope s_table_of, [], []⟩
def dd_kept_by : He.DefD := ⟨("kept_by", none), "kept_by", "kept_by", defArgs s_kept_by, defBody s_kept_by, defScope s_kept_by, [], [("fixed", (.bl false))]⟩
def dd_blamed : He.DefD := ⟨("blamed", none), "blamed", "blamed", defArgs s_blamed, defBody s_blamed, defScope s_blamed, [], []⟩
def dd_widened : He.DefD := ⟨("widened", none), "widened", "widened", defArgs s_widened, defBody s_widened, defScope s_widened, [], []⟩
def dd_is_below : He.DefD := ⟨("is_below", none), "is_below", "is_below", defArgs s_is_below, defBody s_is_below, defScope s_is_below, [], []⟩
def dd_is_row : He.DefD := ⟨("is_row", none), "is_row", "is_row", defArgs s_is_row, defBody s_is_row, defScope s_is_row, [], []⟩
def dd_are_rows : He.DefD := ⟨("are_rows", none), "are_rows", "are_rows", defArgs s_are_rows, defBody s_are_rows, defScope s_are_rows, [], []⟩
def dd_are_relations : He.DefD := ⟨("are_relations", none), "are_relations", "are_relations", defArgs s_are_relations, defBody s_are_relations, defScope s_are_relations, [], []⟩
def dd__law_draws : He.DefD := ⟨("_law_draws", none), "_law_draws", "_law_draws", defArgs s__law_draws, defBody s__law_draws, defScope s__law_draws, [], []⟩
def dd__law_take : He.DefD := ⟨("_law_take", none), "_law_take", "_law_take", defArgs s__law_take, defBody s__law_take, defScope s__law_take, [], []⟩
def dd__law_every : He.DefD := ⟨("_law_every", none), "_law_every", "_law_every", defArgs s__law_every, defBody s__law_every, defScope s__law_every, [], []⟩
def dd__law_rows : He.DefD := ⟨("_law_rows", none), "_law_rows", "_law_rows", defArgs s__law_rows, defBody s__law_rows, defScope s__law_rows, [], []⟩
def dd__law_place : He.DefD := ⟨("_law_place", none), "_law_place", "_law_place", defArgs s__law_place, defBody s__law_place, defScope s__law_place, [], []⟩
def dd__law_made : He.DefD := ⟨("_law_made", none), "_law_made", "_law_made", defArgs s__law_made, defBody s__law_made, defScope s__law_made, [], []⟩
def dd__law_tuples : He.DefD := ⟨("_law_tuples", none), "_law_tuples", "_law_tuples", defArgs s__law_tuples, defBody s__law_tuples, defScope s__law_tuples, [], []⟩
def dd__law_break : He.DefD := ⟨("_law_break", none), "_law_break", "_law_break", defArgs s__law_break, defBody s__law_break, defScope s__law_break, [], []⟩
def dd__law_six : He.DefD := ⟨("_law_six", none), "_law_six", "_law_six", defArgs s__law_six, defBody s__law_six, defScope s__law_six, [], []⟩
def dd__law_places_of : He.DefD := ⟨("_law_places_of", none), "_law_places_of", "_law_places_of", defArgs s__law_places_of, defBody s__law_places_of, defScope s__law_places_of, [], []⟩
def dd__law_closed : He.DefD := ⟨("_law_closed", none), "_law_closed", "_law_closed", defArgs s__law_closed, defBody s__law_closed, defScope s__law_closed, [], []⟩
def dd__law_drawn_book : He.DefD := ⟨("_law_drawn_book", none), "_law_drawn_book", "_law_drawn_book", defArgs s__law_drawn_book, defBody s__law_drawn_book, defScope s__law_drawn_book, [], []⟩
def dd__law_book : He.DefD := ⟨("_law_book", none), "_law_book", "_law_book", defArgs s__law_book, defBody s__law_book, defScope s__law_book, [], []⟩
def dd__law_drawn_table : He.DefD := ⟨("_law_drawn_table", none), "_law_drawn_table", "_law_drawn_table", defArgs s__law_drawn_table, defBody s__law_drawn_table, defScope s__law_drawn_table, [], []⟩
def dd__law_told : He.DefD := ⟨("_law_told", none), "_law_told", "_law_told", defArgs s__law_told, defBody s__law_told, defScope s__law_told, [], []⟩
def dd__law_blamed : He.DefD := ⟨("_law_blamed", none), "_law_blamed", "_law_blamed", defArgs s__law_blamed, defBody s__law_blamed, defScope s__law_blamed, [], []⟩
def dd_law : He.DefD := ⟨("law", none), "law", "law", defArgs s_law, defBody s_law, defScope s_law, [], []⟩
def ddi_InvalidBook : He.DefD := ⟨("InvalidBook", some "__init__"), "__init__", "InvalidBook.__init__", defArgs si_InvalidBook, defBody si_InvalidBook, defScope si_InvalidBook, [], []⟩
def ddi_InvalidRelation : He.DefD := ⟨("InvalidRelation", some "__init__"), "__init__", "InvalidRelation.__init__", defArgs si_InvalidRelation, defBody si_InvalidRelation, defScope si_InvalidRelation, [], []⟩
def ddi_InvalidTable : He.DefD := ⟨("InvalidTable", some "__init__"), "__init__", "InvalidTable.__init__", defArgs si_InvalidTable, defBody si_InvalidTable, defScope si_InvalidTable, [], []⟩
def ddi_Undefined : He.DefD := ⟨("Undefined", some "__init__"), "__init__", "Undefined.__init__", defArgs si_Undefined, defBody si_Undefined, defScope si_Undefined, [], []⟩
def ddi_Relation : He.DefD := ⟨("Relation", some "__init__"), "__init__", "Relation.__init__", defArgs si_Relation, defBody si_Relation, defScope si_Relation, [], []⟩
def ddi_Book : He.DefD := ⟨("Book", some "__init__"), "__init__", "Book.__init__", defArgs si_Book, defBody si_Book, defScope si_Book, [], []⟩
def fn : List He.DefD := [dd_is_bit, dd_is_table, dd_number_of, dd_spelled, dd_made_row, dd_tuples_of, dd_break_in, dd_break_of, dd_table_of, dd_kept_by, dd_blamed, dd_widened, dd_is_below, dd_is_row, dd_are_rows, dd_are_relations, dd__law_draws, dd__law_take, dd__law_every, dd__law_rows, dd__law_place, dd__law_made, dd__law_tuples, dd__law_break, dd__law_six, dd__law_places_of, dd__law_closed, dd__law_drawn_book, dd__law_book, dd__law_drawn_table, dd__law_told, dd__law_blamed, dd_law, ddi_InvalidBook, ddi_InvalidRelation, ddi_InvalidTable, ddi_Undefined, ddi_Relation, ddi_Book]
def fa : List He.Fa := ([.glo "is_bit", .glo "is_table", .glo "number_of", .glo "spelled", .glo "made_row", .glo "tuples_of", .glo "break_in", .glo "break_of", .glo "table_of", .glo "kept_by", .glo "blamed", .glo "widened", .glo "is_below", .glo "is_row", .glo "are_rows"] : List He.Fa) ++ ([.glo "are_relations", .glo "_law_draws", .glo "_law_take", .glo "_law_every", .glo "_law_rows", .glo "_law_place", .glo "_law_made", .glo "_law_tuples", .glo "_law_break", .glo "_law_six", .glo "_law_places_of", .glo "_law_closed", .glo "_law_drawn_book", .glo "_law_book", .glo "_law_drawn_table"] : List He.Fa) ++ ([.glo "_law_told", .glo "_law_blamed", .glo "law", .free "abs", .free "bool", .free "enumerate", .free "int", .free "isinstance", .free "len", .free "list", .free "range", .free "repr", .free "sorted", .free "str", .free "tuple"] : List He.Fa) ++ ([.glo "CellError", .exm "InvalidBook" "Undefined" false, .exm "InvalidRelation" "Undefined" false, .exm "InvalidTable" "Undefined" false, .exm "Undefined" "Undefined" true] : List He.Fa)
def ts : List He.Tab := [(fun K => He.ga K "TABLES", ["all no", "all yes", "and", "or", "majority", "odd one"])]
def ex (K : PySem.W.Frag) : Bool := [cstB K "MOST_PLACES" c_MOST_PLACES, cstB K "MOST_RELATIONS" c_MOST_RELATIONS, cstB K "SIZES" c_SIZES, cstB K "WORDS" c_WORDS, xclsB K "InvalidBook" ["value"], xclsB K "InvalidRelation" ["value"], xclsB K "InvalidTable" ["value"], xclsB K "Undefined" ["what"], decide (PySem.W.kitOne K (.ref (He.ga K "InvalidRelation")) (.ref (He.ga K "CellError")) = some true), decide (PySem.W.kitOne K (.ref (He.ga K "InvalidBook")) (.ref (He.ga K "CellError")) = some true), decide (PySem.W.kitOne K (.ref (He.ga K "InvalidTable")) (.ref (He.ga K "CellError")) = some true), decide (PySem.W.kitOne K (.ref (He.ga K "Undefined")) (.ref (He.ga K "CellError")) = some true), dicB K "TABLES" c_TABLES, tixB K "tuple" "SIZES", kclsB K "Relation" ["size", "rows"], kclsB K "Book" ["relations", "plain"]].all id
abbrev R : PySem.W.OpenRow := PySem.W.OpenLaw.row PySem.Challenge.rw_cellrealm_k04_six_deeds
abbrev qv : Program := PySem.W.view R.prog [50]
def loose : List Str := (["_wall", "is_bit", "is_table", "number_of", "spelled", "made_row", "tuples_of", "break_in", "break_of", "table_of", "kept_by", "blamed", "widened", "is_below", "is_row"] : List Str) ++ (["are_rows", "are_relations", "_law_draws", "_law_take", "_law_every", "_law_rows", "_law_place", "_law_made", "_law_tuples", "_law_break", "_law_six", "_law_places_of", "_law_drawn_book", "_law_closed", "_law_book"] : List Str) ++ (["_law_drawn_table", "_law_told", "_law_blamed", "CellError", "InvalidRelation", "InvalidBook", "InvalidTable", "Undefined", "SIZES", "WORDS", "TABLES", "MOST_PLACES", "Relation", "MOST_RELATIONS", "Book"] : List Str)
theorem run (w : World) : HandSHeadRun.RunEq R qv (hookN 4 fa fn ts ex) (obN 4 fa fn ts ex) 20000 loose w := by
  rw [← setFT_eq w "special-get-raises"]
  generalize w.params.followText "special-get-raises" = b
  cases b
  · intro os
    kernel_rfl
  · intro os
    kernel_rfl
theorem tx_of {w : World} {K : PySem.W.Frag} {h : Heap} {mg : Str → Option Value} (X : K.In h) (G : h.Ns mainGlobals mg) (c0 : He.SaysT fa fn ts w K) (e : ex K = true) : ∃ T : Tx w K mg, T.f_law = He.ga K "law" := by
  have c := c0.d
  obtain ⟨v_MOST_PLACES, u_MOST_PLACES, g_MOST_PLACES, r_MOST_PLACES, y_MOST_PLACES⟩ := cst_ok X G (exB e 0 rfl : cstB K "MOST_PLACES" c_MOST_PLACES = true)
  obtain ⟨v_MOST_RELATIONS, u_MOST_RELATIONS, g_MOST_RELATIONS, r_MOST_RELATIONS, y_MOST_RELATIONS⟩ := cst_ok X G (exB e 1 rfl : cstB K "MOST_RELATIONS" c_MOST_RELATIONS = true)
  obtain ⟨v_SIZES, u_SIZES, g_SIZES, r_SIZES, y_SIZES⟩ := cst_ok X G (exB e 2 rfl : cstB K "SIZES" c_SIZES = true)
  obtain ⟨v_WORDS, u_WORDS, g_WORDS, r_WORDS, y_WORDS⟩ := cst_ok X G (exB e 3 rfl : cstB K "WORDS" c_WORDS = true)
  obtain ⟨fdi_InvalidBook, Fi_InvalidBook⟩ := c.def_ 33 (d := ddi_InvalidBook) rfl
  have Fi'_InvalidBook := fun_of (x := "__init__") (qual := "InvalidBook.__init__") (st := si_InvalidBook) (kws := []) Fi_InvalidBook
  obtain ⟨fdi_InvalidRelation, Fi_InvalidRelation⟩ := c.def_ 34 (d := ddi_InvalidRelation) rfl
  have Fi'_InvalidRelation := fun_of (x := "__init__") (qual := "InvalidRelation.__init__") (st := si_InvalidRelation) (kws := []) Fi_InvalidRelation
  obtain ⟨fdi_InvalidTable, Fi_InvalidTable⟩ := c.def_ 35 (d := ddi_InvalidTable) rfl
  have Fi'_InvalidTable := fun_of (x := "__init__") (qual := "InvalidTable.__init__") (st := si_InvalidTable) (kws := []) Fi_InvalidTable
  obtain ⟨fdi_Undefined, Fi_Undefined⟩ := c.def_ 36 (d := ddi_Undefined) rfl
  have Fi'_Undefined := fun_of (x := "__init__") (qual := "Undefined.__init__") (st := si_Undefined) (kws := []) Fi_Undefined
  obtain ⟨fdi_Relation, Fi_Relation⟩ := c.def_ 37 (d := ddi_Relation) rfl
  have Fi'_Relation := fun_of (x := "__init__") (qual := "Relation.__init__") (st := si_Relation) (kws := []) Fi_Relation
  obtain ⟨fdi_Book, Fi_Book⟩ := c.def_ 38 (d := ddi_Book) rfl
  have Fi'_Book := fun_of (x := "__init__") (qual := "Book.__init__") (st := si_Book) (kws := []) Fi_Book
  obtain ⟨fd_is_bit, F_is_bit⟩ := c.def_ 0 (d := dd_is_bit) rfl
  obtain ⟨fd_is_table, F_is_table⟩ := c.def_ 1 (d := dd_is_table) rfl
  obtain ⟨fd_number_of, F_number_of⟩ := c.def_ 2 (d := dd_number_of) rfl
  obtain ⟨fd_spelled, F_spelled⟩ := c.def_ 3 (d := dd_spelled) rfl
  obtain ⟨fd_made_row, F_made_row⟩ := c.def_ 4 (d := dd_made_row) rfl
  obtain ⟨fd_tuples_of, F_tuples_of⟩ := c.def_ 5 (d := dd_tuples_of) rfl
  obtain ⟨fd_break_in, F_break_in⟩ := c.def_ 6 (d := dd_break_in) rfl
  obtain ⟨fd_break_of, F_break_of⟩ := c.def_ 7 (d := dd_break_of) rfl
  obtain ⟨fd_table_of, F_table_of⟩ := c.def_ 8 (d := dd_table_of) rfl
  obtain ⟨fd_kept_by, F_kept_by⟩ := c.def_ 9 (d := dd_kept_by) rfl
  obtain ⟨fd_blamed, F_blamed⟩ := c.def_ 10 (d := dd_blamed) rfl
  obtain ⟨fd_widened, F_widened⟩ := c.def_ 11 (d := dd_widened) rfl
  obtain ⟨fd_is_below, F_is_below⟩ := c.def_ 12 (d := dd_is_below) rfl
  obtain ⟨fd_is_row, F_is_row⟩ := c.def_ 13 (d := dd_is_row) rfl
  obtain ⟨fd_are_rows, F_are_rows⟩ := c.def_ 14 (d := dd_are_rows) rfl
  obtain ⟨fd_are_relations, F_are_relations⟩ := c.def_ 15 (d := dd_are_relations) rfl
  obtain ⟨fd__law_draws, F__law_draws⟩ := c.def_ 16 (d := dd__law_draws) rfl
  obtain ⟨fd__law_take, F__law_take⟩ := c.def_ 17 (d := dd__law_take) rfl
  obtain ⟨fd__law_every, F__law_every⟩ := c.def_ 18 (d := dd__law_every) rfl
  obtain ⟨fd__law_rows, F__law_rows⟩ := c.def_ 19 (d := dd__law_rows) rfl
  obtain ⟨fd__law_place, F__law_place⟩ := c.def_ 20 (d := dd__law_place) rfl
  obtain ⟨fd__law_made, F__law_made⟩ := c.def_ 21 (d := dd__law_made) rfl
  obtain ⟨fd__law_tuples, F__law_tuples⟩ := c.def_ 22 (d := dd__law_tuples) rfl
  obtain ⟨fd__law_break, F__law_break⟩ := c.def_ 23 (d := dd__law_break) rfl
  obtain ⟨fd__law_six, F__law_six⟩ := c.def_ 24 (d := dd__law_six) rfl
  obtain ⟨fd__law_places_of, F__law_places_of⟩ := c.def_ 25 (d := dd__law_places_of) rfl
  obtain ⟨fd__law_closed, F__law_closed⟩ := c.def_ 26 (d := dd__law_closed) rfl
  obtain ⟨fd__law_drawn_book, F__law_drawn_book⟩ := c.def_ 27 (d := dd__law_drawn_book) rfl
  obtain ⟨fd__law_book, F__law_book⟩ := c.def_ 28 (d := dd__law_book) rfl
  obtain ⟨fd__law_drawn_table, F__law_drawn_table⟩ := c.def_ 29 (d := dd__law_drawn_table) rfl
  obtain ⟨fd__law_told, F__law_told⟩ := c.def_ 30 (d := dd__law_told) rfl
  obtain ⟨fd__law_blamed, F__law_blamed⟩ := c.def_ 31 (d := dd__law_blamed) rfl
  obtain ⟨fd_law, F_law⟩ := c.def_ 32 (d := dd_law) rfl
  have F'_is_bit := fun_of (x := "is_bit") (qual := "is_bit") (st := s_is_bit) (kws := []) F_is_bit
  have F'_is_table := fun_of (x := "is_table") (qual := "is_table") (st := s_is_table) (kws := []) F_is_table
  have F'_number_of := fun_of (x := "number_of") (qual := "number_of") (st := s_number_of) (kws := []) F_number_of
  have F'_spelled := fun_of (x := "spelled") (qual := "spelled") (st := s_spelled) (kws := []) F_spelled
  have F'_made_row := fun_of (x := "made_row") (qual := "made_row") (st := s_made_row) (kws := []) F_made_row
  have F'_tuples_of := fun_of (x := "tuples_of") (qual := "tuples_of") (st := s_tuples_of) (kws := []) F_tuples_of
  have F'_break_in := fun_of (x := "break_in") (qual := "break_in") (st := s_break_in) (kws := []) F_break_in
  have F'_break_of := fun_of (x := "break_of") (qual := "break_of") (st := s_break_of) (kws := []) F_break_of
  have F'_table_of := fun_of (x := "table_of") (qual := "table_of") (st := s_table_of) (kws := []) F_table_of
  have F'_kept_by := fun_of (x := "kept_by") (qual := "kept_by") (st := s_kept_by) (kws := [("fixed", (.bl false))]) F_kept_by
  obtain ⟨ds_kept_by, vd_kept_by, bd_kept_by⟩ := FunD.binds0 (x := "kept_by") (qual := "kept_by") (params := defArgs s_kept_by) (body := defBody s_kept_by) (scope := defScope s_kept_by) (kws := [("fixed", (.bl false))]) (ps := ["book", "fixed"]) F_kept_by 1 (by simp) rfl (fun D doc pm an cdv ct us ks h1 h2 => match us, ks, h1, h2 with | [_], [_], _, _ => ⟨_, _, _, _, _, _, rfl, rfl, rfl⟩)
  have F'_blamed := fun_of (x := "blamed") (qual := "blamed") (st := s_blamed) (kws := []) F_blamed
  have F'_widened := fun_of (x := "widened") (qual := "widened") (st := s_widened) (kws := []) F_widened
  have F'_is_below := fun_of (x := "is_below") (qual := "is_below") (st := s_is_below) (kws := []) F_is_below
  have F'_is_row := fun_of (x := "is_row") (qual := "is_row") (st := s_is_row) (kws := []) F_is_row
  have F'_are_rows := fun_of (x := "are_rows") (qual := "are_rows") (st := s_are_rows) (kws := []) F_are_rows
  have F'_are_relations := fun_of (x := "are_relations") (qual := "are_relations") (st := s_are_relations) (kws := []) F_are_relations
  have F'__law_draws := fun_of (x := "_law_draws") (qual := "_law_draws") (st := s__law_draws) (kws := []) F__law_draws
  have F'__law_take := fun_of (x := "_law_take") (qual := "_law_take") (st := s__law_take) (kws := []) F__law_take
  have F'__law_every := fun_of (x := "_law_every") (qual := "_law_every") (st := s__law_every) (kws := []) F__law_every
  have F'__law_rows := fun_of (x := "_law_rows") (qual := "_law_rows") (st := s__law_rows) (kws := []) F__law_rows
  have F'__law_place := fun_of (x := "_law_place") (qual := "_law_place") (st := s__law_place) (kws := []) F__law_place
  have F'__law_made := fun_of (x := "_law_made") (qual := "_law_made") (st := s__law_made) (kws := []) F__law_made
  have F'__law_tuples := fun_of (x := "_law_tuples") (qual := "_law_tuples") (st := s__law_tuples) (kws := []) F__law_tuples
  have F'__law_break := fun_of (x := "_law_break") (qual := "_law_break") (st := s__law_break) (kws := []) F__law_break
  have F'__law_six := fun_of (x := "_law_six") (qual := "_law_six") (st := s__law_six) (kws := []) F__law_six
  have F'__law_places_of := fun_of (x := "_law_places_of") (qual := "_law_places_of") (st := s__law_places_of) (kws := []) F__law_places_of
  have F'__law_closed := fun_of (x := "_law_closed") (qual := "_law_closed") (st := s__law_closed) (kws := []) F__law_closed
  have F'__law_drawn_book := fun_of (x := "_law_drawn_book") (qual := "_law_drawn_book") (st := s__law_drawn_book) (kws := []) F__law_drawn_book
  have F'__law_book := fun_of (x := "_law_book") (qual := "_law_book") (st := s__law_book) (kws := []) F__law_book
  have F'__law_drawn_table := fun_of (x := "_law_drawn_table") (qual := "_law_drawn_table") (st := s__law_drawn_table) (kws := []) F__law_drawn_table
  have F'__law_told := fun_of (x := "_law_told") (qual := "_law_told") (st := s__law_told) (kws := []) F__law_told
  have F'__law_blamed := fun_of (x := "_law_blamed") (qual := "_law_blamed") (st := s__law_blamed) (kws := []) F__law_blamed
  have F'_law := fun_of (x := "law") (qual := "law") (st := s_law) (kws := []) F_law
  exact ⟨{
    I_Relation := He.fAd K ("Relation", some "__init__")
    di_Relation := fdi_Relation
    k_Relation := kcls_ok X G (exB e 14 rfl)
    Fi_Relation := Fi'_Relation
    bi_Relation := (Fi'_Relation.binds (ps := ["self", "size", "rows"]) fun _ _ _ _ _ _ us hl => match us, hl with | [_, _, _], _ => rfl)
    I_Book := He.fAd K ("Book", some "__init__")
    di_Book := fdi_Book
    k_Book := kcls_ok X G (exB e 15 rfl)
    Fi_Book := Fi'_Book
    bi_Book := (Fi'_Book.binds (ps := ["self", "relations"]) fun _ _ _ _ _ _ us hl => match us, hl with | [_, _], _ => rfl)
    C_InvalidBook := He.ga K "InvalidBook"
    I_InvalidBook := He.fAd K ("InvalidBook", some "__init__")
    di_InvalidBook := fdi_InvalidBook
    x_InvalidBook := xcls_ok X G (exB e 4 rfl)
    Fi_InvalidBook := Fi'_InvalidBook
    bi_InvalidBook := (Fi'_InvalidBook.binds (ps := ["self", "value"]) fun _ _ _ _ _ _ us hl => match us, hl with | [_, _], _ => rfl)
    C_InvalidRelation := He.ga K "InvalidRelation"
    I_InvalidRelation := He.fAd K ("InvalidRelation", some "__init__")
    di_InvalidRelation := fdi_InvalidRelation
    x_InvalidRelation := xcls_ok X G (exB e 5 rfl)
    Fi_InvalidRelation := Fi'_InvalidRelation
    bi_InvalidRelation := (Fi'_InvalidRelation.binds (ps := ["self", "value"]) fun _ _ _ _ _ _ us hl => match us, hl with | [_, _], _ => rfl)
    C_InvalidTable := He.ga K "InvalidTable"
    I_InvalidTable := He.fAd K ("InvalidTable", some "__init__")
    di_InvalidTable := fdi_InvalidTable
    x_InvalidTable := xcls_ok X G (exB e 6 rfl)
    Fi_InvalidTable := Fi'_InvalidTable
    bi_InvalidTable := (Fi'_InvalidTable.binds (ps := ["self", "value"]) fun _ _ _ _ _ _ us hl => match us, hl with | [_, _], _ => rfl)
    C_Undefined := He.ga K "Undefined"
    I_Undefined := He.fAd K ("Undefined", some "__init__")
    di_Undefined := fdi_Undefined
    x_Undefined := xcls_ok X G (exB e 7 rfl)
    Fi_Undefined := Fi'_Undefined
    bi_Undefined := (Fi'_Undefined.binds (ps := ["self", "what"]) fun _ _ _ _ _ _ us hl => match us, hl with | [_, _], _ => rfl)
    C_CellError := He.ga K "CellError"
    g_CellError := He.glo_ok X G (c.fact 45 (f := .glo "CellError") rfl)
    em_InvalidBook_Undefined := He.exm_ok (c.fact 46 (f := .exm "InvalidBook" "Undefined" false) rfl)
    em_InvalidRelation_Undefined := He.exm_ok (c.fact 47 (f := .exm "InvalidRelation" "Undefined" false) rfl)
    em_InvalidTable_Undefined := He.exm_ok (c.fact 48 (f := .exm "InvalidTable" "Undefined" false) rfl)
    em_Undefined_Undefined := He.exm_ok (c.fact 49 (f := .exm "Undefined" "Undefined" true) rfl)
    kt_0 := of_decide_eq_true (exB e 8 rfl)
    kt_1 := of_decide_eq_true (exB e 9 rfl)
    kt_2 := of_decide_eq_true (exB e 10 rfl)
    kt_3 := of_decide_eq_true (exB e 11 rfl)
    a_TABLES := _
    d_TABLES := dic_ok X G (exB e 12 rfl) (c0.tab 0)
    f_is_bit := _
    d_is_bit := fd_is_bit
    F_is_bit := F'_is_bit
    g_is_bit := He.glo_ok X G (c.fact 0 (f := .glo "is_bit") rfl)
    b_is_bit := (F'_is_bit.binds (ps := ["value"]) fun _ _ _ _ _ _ us hl => match us, hl with | [_], _ => rfl)
    f_is_table := _
    d_is_table := fd_is_table
    F_is_table := F'_is_table
    g_is_table := He.glo_ok X G (c.fact 1 (f := .glo "is_table") rfl)
    b_is_table := (F'_is_table.binds (ps := ["value", "m"]) fun _ _ _ _ _ _ us hl => match us, hl with | [_, _], _ => rfl)
    f_number_of := _
    d_number_of := fd_number_of
    F_number_of := F'_number_of
    g_number_of := He.glo_ok X G (c.fact 2 (f := .glo "number_of") rfl)
    b_number_of := (F'_number_of.binds (ps := ["bits"]) fun _ _ _ _ _ _ us hl => match us, hl with | [_], _ => rfl)
    f_spelled := _
    d_spelled := fd_spelled
    F_spelled := F'_spelled
    g_spelled := He.glo_ok X G (c.fact 3 (f := .glo "spelled") rfl)
    b_spelled := (F'_spelled.binds (ps := ["rows"]) fun _ _ _ _ _ _ us hl => match us, hl with | [_], _ => rfl)
    f_made_row := _
    d_made_row := fd_made_row
    F_made_row := F'_made_row
    g_made_row := He.glo_ok X G (c.fact 4 (f := .glo "made_row") rfl)
    b_made_row := (F'_made_row.binds (ps := ["table", "rows"]) fun _ _ _ _ _ _ us hl => match us, hl with | [_, _], _ => rfl)
    f_tuples_of := _
    d_tuples_of := fd_tuples_of
    F_tuples_of := F'_tuples_of
    g_tuples_of := He.glo_ok X G (c.fact 5 (f := .glo "tuples_of") rfl)
    b_tuples_of := (F'_tuples_of.binds (ps := ["rows", "m"]) fun _ _ _ _ _ _ us hl => match us, hl with | [_, _], _ => rfl)
    f_break_in := _
    d_break_in := fd_break_in
    F_break_in := F'_break_in
    g_break_in := He.glo_ok X G (c.fact 6 (f := .glo "break_in") rfl)
    b_break_in := (F'_break_in.binds (ps := ["relation", "table"]) fun _ _ _ _ _ _ us hl => match us, hl with | [_, _], _ => rfl)
    f_break_of := _
    d_break_of := fd_break_of
    F_break_of := F'_break_of
    g_break_of := He.glo_ok X G (c.fact 7 (f := .glo "break_of") rfl)
    b_break_of := (F'_break_of.binds (ps := ["book", "table"]) fun _ _ _ _ _ _ us hl => match us, hl with | [_, _], _ => rfl)
    f_table_of := _
    d_table_of := fd_table_of
    F_table_of := F'_table_of
    g_table_of := He.glo_ok X G (c.fact 8 (f := .glo "table_of") rfl)
    b_table_of := (F'_table_of.binds (ps := ["word"]) fun _ _ _ _ _ _ us hl => match us, hl with | [_], _ => rfl)
    f_kept_by := _
    d_kept_by := fd_kept_by
    F_kept_by := F'_kept_by
    g_kept_by := He.glo_ok X G (c.fact 9 (f := .glo "kept_by") rfl)
    ds_kept_by := ds_kept_by
    vd_kept_by := vd_kept_by
    b_kept_by := bd_kept_by
    f_blamed := _
    d_blamed := fd_blamed
    F_blamed := F'_blamed
    g_blamed := He.glo_ok X G (c.fact 10 (f := .glo "blamed") rfl)
    b_blamed := (F'_blamed.binds (ps := ["book"]) fun _ _ _ _ _ _ us hl => match us, hl with | [_], _ => rfl)
    f_widened := _
    d_widened := fd_widened
    F_widened := F'_widened
    g_widened := He.glo_ok X G (c.fact 11 (f := .glo "widened") rfl)
    b_widened := (F'_widened.binds (ps := ["table"]) fun _ _ _ _ _ _ us hl => match us, hl with | [_], _ => rfl)
    f_is_below := _
    d_is_below := fd_is_below
    F_is_below := F'_is_below
    g_is_below := He.glo_ok X G (c.fact 12 (f := .glo "is_below") rfl)
    b_is_below := (F'_is_below.binds (ps := ["value", "limit"]) fun _ _ _ _ _ _ us hl => match us, hl with | [_, _], _ => rfl)
    f_is_row := _
    d_is_row := fd_is_row
    F_is_row := F'_is_row
    g_is_row := He.glo_ok X G (c.fact 13 (f := .glo "is_row") rfl)
    b_is_row := (F'_is_row.binds (ps := ["value", "size"]) fun _ _ _ _ _ _ us hl => match us, hl with | [_, _], _ => rfl)
    f_are_rows := _
    d_are_rows := fd_are_rows
    F_are_rows := F'_are_rows
    g_are_rows := He.glo_ok X G (c.fact 14 (f := .glo "are_rows") rfl)
    b_are_rows := (F'_are_rows.binds (ps := ["rows", "size"]) fun _ _ _ _ _ _ us hl => match us, hl with | [_, _], _ => rfl)
    f_are_relations := _
    d_are_relations := fd_are_relations
    F_are_relations := F'_are_relations
    g_are_relations := He.glo_ok X G (c.fact 15 (f := .glo "are_relations") rfl)
    b_are_relations := (F'_are_relations.binds (ps := ["relations"]) fun _ _ _ _ _ _ us hl => match us, hl with | [_], _ => rfl)
    f__law_draws := _
    d__law_draws := fd__law_draws
    F__law_draws := F'__law_draws
    g__law_draws := He.glo_ok X G (c.fact 16 (f := .glo "_law_draws") rfl)
    b__law_draws := (F'__law_draws.binds (ps := ["script", "many"]) fun _ _ _ _ _ _ us hl => match us, hl with | [_, _], _ => rfl)
    f__law_take := _
    d__law_take := fd__law_take
    F__law_take := F'__law_take
    g__law_take := He.glo_ok X G (c.fact 17 (f := .glo "_law_take") rfl)
    b__law_take := (F'__law_take.binds (ps := ["hand", "many"]) fun _ _ _ _ _ _ us hl => match us, hl with | [_, _], _ => rfl)
    f__law_every := _
    d__law_every := fd__law_every
    F__law_every := F'__law_every
    g__law_every := He.glo_ok X G (c.fact 18 (f := .glo "_law_every") rfl)
    b__law_every := (F'__law_every.binds (ps := ["many"]) fun _ _ _ _ _ _ us hl => match us, hl with | [_], _ => rfl)
    f__law_rows := _
    d__law_rows := fd__law_rows
    F__law_rows := F'__law_rows
    g__law_rows := He.glo_ok X G (c.fact 19 (f := .glo "_law_rows") rfl)
    b__law_rows := (F'__law_rows.binds (ps := ["hand", "size", "most"]) fun _ _ _ _ _ _ us hl => match us, hl with | [_, _, _], _ => rfl)
    f__law_place := _
    d__law_place := fd__law_place
    F__law_place := F'__law_place
    g__law_place := He.glo_ok X G (c.fact 20 (f := .glo "_law_place") rfl)
    b__law_place := (F'__law_place.binds (ps := ["row"]) fun _ _ _ _ _ _ us hl => match us, hl with | [_], _ => rfl)
    f__law_made := _
    d__law_made := fd__law_made
    F__law_made := F'__law_made
    g__law_made := He.glo_ok X G (c.fact 21 (f := .glo "_law_made") rfl)
    b__law_made := (F'__law_made.binds (ps := ["table", "rows"]) fun _ _ _ _ _ _ us hl => match us, hl with | [_, _], _ => rfl)
    f__law_tuples := _
    d__law_tuples := fd__law_tuples
    F__law_tuples := F'__law_tuples
    g__law_tuples := He.glo_ok X G (c.fact 22 (f := .glo "_law_tuples") rfl)
    b__law_tuples := (F'__law_tuples.binds (ps := ["rows", "m"]) fun _ _ _ _ _ _ us hl => match us, hl with | [_, _], _ => rfl)
    f__law_break := _
    d__law_break := fd__law_break
    F__law_break := F'__law_break
    g__law_break := He.glo_ok X G (c.fact 23 (f := .glo "_law_break") rfl)
    b__law_break := (F'__law_break.binds (ps := ["relation", "table", "m"]) fun _ _ _ _ _ _ us hl => match us, hl with | [_, _, _], _ => rfl)
    f__law_six := _
    d__law_six := fd__law_six
    F__law_six := F'__law_six
    g__law_six := He.glo_ok X G (c.fact 24 (f := .glo "_law_six") rfl)
    b__law_six := (F'__law_six.binds (ps := []) fun _ _ _ _ _ _ us hl => match us, hl with | [], _ => rfl)
    f__law_places_of := _
    d__law_places_of := fd__law_places_of
    F__law_places_of := F'__law_places_of
    g__law_places_of := He.glo_ok X G (c.fact 25 (f := .glo "_law_places_of") rfl)
    b__law_places_of := (F'__law_places_of.binds (ps := ["table"]) fun _ _ _ _ _ _ us hl => match us, hl with | [_], _ => rfl)
    f__law_closed := _
    d__law_closed := fd__law_closed
    F__law_closed := F'__law_closed
    g__law_closed := He.glo_ok X G (c.fact 26 (f := .glo "_law_closed") rfl)
    b__law_closed := (F'__law_closed.binds (ps := ["rows", "table"]) fun _ _ _ _ _ _ us hl => match us, hl with | [_, _], _ => rfl)
    f__law_drawn_book := _
    d__law_drawn_book := fd__law_drawn_book
    F__law_drawn_book := F'__law_drawn_book
    g__law_drawn_book := He.glo_ok X G (c.fact 27 (f := .glo "_law_drawn_book") rfl)
    b__law_drawn_book := (F'__law_drawn_book.binds (ps := ["hand"]) fun _ _ _ _ _ _ us hl => match us, hl with | [_], _ => rfl)
    f__law_book := _
    d__law_book := fd__law_book
    F__law_book := F'__law_book
    g__law_book := He.glo_ok X G (c.fact 28 (f := .glo "_law_book") rfl)
    b__law_book := (F'__law_book.binds (ps := ["book"]) fun _ _ _ _ _ _ us hl => match us, hl with | [_], _ => rfl)
    f__law_drawn_table := _
    d__law_drawn_table := fd__law_drawn_table
    F__law_drawn_table := F'__law_drawn_table
    g__law_drawn_table := He.glo_ok X G (c.fact 29 (f := .glo "_law_drawn_table") rfl)
    b__law_drawn_table := (F'__law_drawn_table.binds (ps := ["hand", "m"]) fun _ _ _ _ _ _ us hl => match us, hl with | [_, _], _ => rfl)
    f__law_told := _
    d__law_told := fd__law_told
    F__law_told := F'__law_told
    g__law_told := He.glo_ok X G (c.fact 30 (f := .glo "_law_told") rfl)
    b__law_told := (F'__law_told.binds (ps := ["word"]) fun _ _ _ _ _ _ us hl => match us, hl with | [_], _ => rfl)
    f__law_blamed := _
    d__law_blamed := fd__law_blamed
    F__law_blamed := F'__law_blamed
    g__law_blamed := He.glo_ok X G (c.fact 31 (f := .glo "_law_blamed") rfl)
    b__law_blamed := (F'__law_blamed.binds (ps := ["book"]) fun _ _ _ _ _ _ us hl => match us, hl with | [_], _ => rfl)
    f_law := _
    d_law := fd_law
    F_law := F'_law
    g_law := He.glo_ok X G (c.fact 32 (f := .glo "law") rfl)
    b_law := (F'_law.binds (ps := ["script"]) fun _ _ _ _ _ _ us hl => match us, hl with | [_], _ => rfl)
    kb_kept_by_0 := (kb_of (p := 0) (q := 2) F'_kept_by (ps := ["book", "fixed"]) (ks := ["book", "fixed"]) (by decide) fun _ _ _ _ _ _ us ws h1 h2 => match us, ws, h1, h2 with | [], [_, _], _, _ => rfl)
    kb_kept_by_1 := (kb_of (p := 1) (q := 1) F'_kept_by (ps := ["book", "fixed"]) (ks := ["fixed"]) (by decide) fun _ _ _ _ _ _ us ws h1 h2 => match us, ws, h1, h2 with | [_], [_], _, _ => rfl)
    kb_table_of_0 := (kb_of (p := 0) (q := 1) F'_table_of (ps := ["word"]) (ks := ["word"]) (by decide) fun _ _ _ _ _ _ us ws h1 h2 => match us, ws, h1, h2 with | [], [_], _, _ => rfl)
    kb_widened_0 := (kb_of (p := 0) (q := 1) F'_widened (ps := ["table"]) (ks := ["table"]) (by decide) fun _ _ _ _ _ _ us ws h1 h2 => match us, ws, h1, h2 with | [], [_], _, _ => rfl)
    n_abs := He.free_ok X G (c.fact 33 (f := .free "abs") rfl)
    n_bool := He.free_ok X G (c.fact 34 (f := .free "bool") rfl)
    n_enumerate := He.free_ok X G (c.fact 35 (f := .free "enumerate") rfl)
    n_int := He.free_ok X G (c.fact 36 (f := .free "int") rfl)
    n_isinstance := He.free_ok X G (c.fact 37 (f := .free "isinstance") rfl)
    n_len := He.free_ok X G (c.fact 38 (f := .free "len") rfl)
    n_list := He.free_ok X G (c.fact 39 (f := .free "list") rfl)
    n_range := He.free_ok X G (c.fact 40 (f := .free "range") rfl)
    n_repr := He.free_ok X G (c.fact 41 (f := .free "repr") rfl)
    n_sorted := He.free_ok X G (c.fact 42 (f := .free "sorted") rfl)
    n_str := He.free_ok X G (c.fact 43 (f := .free "str") rfl)
    n_tuple := He.free_ok X G (c.fact 44 (f := .free "tuple") rfl)
    v_MOST_PLACES := v_MOST_PLACES
    u_MOST_PLACES := u_MOST_PLACES
    g_MOST_PLACES := g_MOST_PLACES
    r_MOST_PLACES := r_MOST_PLACES
    y_MOST_PLACES := y_MOST_PLACES
    v_MOST_RELATIONS := v_MOST_RELATIONS
    u_MOST_RELATIONS := u_MOST_RELATIONS
    g_MOST_RELATIONS := g_MOST_RELATIONS
    r_MOST_RELATIONS := r_MOST_RELATIONS
    y_MOST_RELATIONS := y_MOST_RELATIONS
    v_SIZES := v_SIZES
    u_SIZES := u_SIZES
    g_SIZES := g_SIZES
    r_SIZES := r_SIZES
    y_SIZES := y_SIZES
    v_WORDS := v_WORDS
    u_WORDS := u_WORDS
    g_WORDS := g_WORDS
    r_WORDS := r_WORDS
    y_WORDS := y_WORDS
    tx_SIZES := tix_ok X G (exB e 13 rfl) g_SIZES r_SIZES }, rfl⟩
end K04
open PySem PySem.W PySem.Calls PyProof.Rows
theorem PySem.Challenge.cw_cellrealm_k04_six_deeds_holds : PySem.Challenge.rw_cellrealm_k04_six_deeds.Holds := by
  w_on; o_law
  refine HandSHeadRun.head_any (r := K04.R) (q := K04.qv) (H := Mir.hookN 4 K04.fa K04.fn K04.ts K04.ex) (ob := Mir.obN 4 K04.fa K04.fn K04.ts K04.ex) (M := 20000) (loose := K04.loose) (d := HandSHeadRun.topDef K04.R.prog 50) (kwd := []) Mir.obN_eq
    (by kernel_rfl) (fun s => by kernel_rfl) K04.run (by kernel_rfl) (by kernel_rfl) (by kernel_rfl) (by rfl) (by first | assumption | decide +kernel) (by decide +kernel) ⟨rfl, rfl, rfl, rfl, rfl, by decide +kernel⟩ ?hw ?hc
  case hw => w_witness2
  case hc =>
    refine Mir.walk_mir (l := PySem.Challenge.rw_cellrealm_k04_six_deeds) (n := 63) (k := 7) (x := "script") (m := K04.m_law) rfl (by decide) (by kernel_rfl) ⟨rfl, by decide, by decide⟩ ?F K04.law_true
    intro w mg fa h Y G hmg0
    obtain ⟨K, KX, c, e⟩ := Y
    have hmg : mg ("law" : PySem.Str) = some (.ref fa) := by
      have e : (HandSHeadRun.topDef K04.R.prog 50).name = ("law" : PySem.Str) := by kernel_rfl
      rw [← e]
      exact hmg0
    obtain ⟨T, eT⟩ := K04.tx_of KX G c e
    have ea := hmg.symm.trans T.g_law
    cases ea
    exact ⟨K, T.d_law, KX, Mir.bind1 T.F_law fun _ _ _ _ _ _ _ => rfl, fun base _ _ => T.ok_law⟩
