import PyProof.Rows.All
import HandS.ForMost
import HandS.WordsExc
import HandS.TupAny
import HandS.IsInst
import HandS.Defaults
import HandS.HeadHook1
import HandS.CallSlots
import HandS.HeadEnd
import PyProof.ReprReads
import KE.DataMinMax
import HandS.TupMul
import HandS.Head2
import HandS.HeadHook2
import HandS.ExcInit
import HandS.ExcField
import KE.KExcIs
import HandS.Deep
import HandS.TupLe
import HandS.TryOnly
import HandS.HeadHook3
import PyProof.ReprLen
import HandS.Zip
import HandS.Zip0
import HandS.Iter
import HandS.Style
import HandS.DictComp
import HandS.TupSets
import HandS.Conv
import KE.KDictKeyed
import HandS.OwnEq
import OpenK.KOps
import Wide.All
import OpenK.AllK
import Wide.FinOn
import KE.KStateDown
import Lean
import KE.SortData
import HandS.SetKeys
import HandS.More
import KE.KDictPairs
import KE.KDictCopyH
import HandS.SortInts
import HandS.WordsDict
import KE.GoesMore
import KE.GoesEnum
import PyProof.CollectIter
import PyProof.ListRange
import PyProof.FactsAll.range_iterator_1
import HandS.RevRange
import HandS.SetFor
import KE.SortKeyHeap
import KE.KSortKey
import PySem.Challenge.RW_cellrealm_k35_pair_clauses
set_option Elab.async false
set_option linter.all false
set_option maxRecDepth 100000
set_option maxHeartbeats 4000000
namespace Mir
open PySem PySem.Spec PyProof.Rows L2
/-- a value as plain data. lst: a list that is never changed any more; cl: a list that is locked or written; obj: a shared object of the store -/
inductive PV where
  | non | bl (b : Bool) | int (i : Int) | str (x : Str)
  | tup (xs : List PV) | lst (xs : List PV) | cl (xs : List PV) | obj (n : Nat)
  /-- a dict, an instance of an own class, that is never changed any more; a def of the module -/
  | dk (ks : List Key) (xs : List PV) | ins (c : Str) (ns : List Str) (xs : List PV) | fn (x : Str)
  /-- a tuple that is known to have no dict of its own -/
  | pt (xs : List PV)
/-- what an object of the store (or a list that a def is still filling) holds -/
inductive SO where
  | lst (xs : List PV) | dk (ks : List Key) (xs : List PV) | ins (c : Str) (ns : List Str) (xs : List PV)
abbrev Store := List SO
inductive Res (α : Type) where
  | ok (a : α) (S : Store) | exc (c : Str) (fs : List (Str × PV)) (S : Store) | bad
def Res.bind {α β : Type} : Res α → (α → Store → Res β) → Res β
  | .ok a S, f => f a S
  | .exc c fs S, _ => .exc c fs S
  | .bad, _ => .bad
/-- no exception is let through -/
def Res.nox {α : Type} : Res α → Res α
  | .ok a S => .ok a S
  | _ => .bad
def cut (H : Hp) (O : List Addr) : Hp := fun a => if a ∈ O then none else H a
theorem cut_out {H : Hp} {O : List Addr} {a : Addr} (h : a ∉ O) : cut H O a = H a := by unfold cut; rw [if_neg h]
theorem cut_in {H : Hp} {O : List Addr} {a : Addr} (h : a ∈ O) : cut H O a = none := by unfold cut; rw [if_pos h]
theorem cut_some {H : Hp} {O : List Addr} {a : Addr} {o : HO} (h : cut H O a = some o) : a ∉ O ∧ H a = some o := by
  by_cases m : a ∈ O
  · rw [cut_in m] at h; cases h
  · rw [cut_out m] at h; exact ⟨m, h⟩
/-- at a a tuple without a dict of its own -/
def PlT (K : PySem.W.Frag) (Hc : Hp) (a : Addr) (vs : List V) : Prop := (∃ o, Hc a = some (.frz o (.tup vs)) ∧ o.dict = none) ∨ ∃ o its n, K.lookup a = some o ∧ o.cls = .type "tuple" ∧ o.dict = none ∧ o.data = .seq its n ∧ its.size ≤ sizeLine ∧ Vals vs its.toList
section
variable (K : PySem.W.Frag) (L : List Addr) (Hc : Hp)
mutual
def RV : PV → V → Prop
  | .non, v => v = .non
  | .bl b, v => v = .bl b
  | .int i, v => v = .int i
  | .str x, v => v = .str x
  | .tup xs, v => ∃ a vs, v = .ref a ∧ SqT K Hc a vs ∧ RVs xs vs
  | .lst xs, v => ∃ a vs, v = .ref a ∧ Hc a = some (.lst vs) ∧ RVs xs vs
  | .cl xs, v => ∃ a vs, v = .ref a ∧ SqL K Hc a vs ∧ RVs xs vs
  | .obj n, v => ∃ a, v = .ref a ∧ L[n]? = some a
  | .dk ks xs, v => ∃ a vs, v = .ref a ∧ Hc a = some (.dK (ks.zip vs)) ∧ xs.length = ks.length ∧ RVs xs vs
  | .ins c ns xs, v => ∃ a dx vs, v = .ref a ∧ Hc a = some (.ins (He.ga K c) dx (ns.zip vs)) ∧ xs.length = ns.length ∧ RVs xs vs
  | .fn x, v => v = .ref (He.ga K x)
  | .pt xs, v => ∃ a vs, v = .ref a ∧ PlT K Hc a vs ∧ RVs xs vs
def RVs : List PV → List V → Prop
  | [], vs => vs = []
  | x :: xs, vs => ∃ v r, vs = v :: r ∧ RV x v ∧ RVs xs r
end
def RF : List (Str × PV) → List (Str × V) → Prop
  | [], vs => vs = []
  | (f, x) :: xs, vs => ∃ v r, vs = (f, v) :: r ∧ RV K L Hc x v ∧ RF xs r
/-- what stands at an address holds o -/
def SOk : Option HO → SO → Prop
  | ho, .lst xs => ∃ vs, ho = some (.lst vs) ∧ RVs K L Hc xs vs
  | ho, .dk ks xs => ∃ vs, ho = some (.dK (ks.zip vs)) ∧ xs.length = ks.length ∧ RVs K L Hc xs vs
  | ho, .ins c ns xs => ∃ dx vs, ho = some (.ins (He.ga K c) dx (ns.zip vs)) ∧ xs.length = ns.length ∧ RVs K L Hc xs vs
end
section
variable {K : PySem.W.Frag} {L L' : List Addr} {Hc Hc' : Hp}
theorem sqT_mono (e : ∀ a o, Hc a = some o → Hc' a = some o) {a : Addr} {vs : List V} (h : SqT K Hc a vs) : SqT K Hc' a vs := by
  rcases h with (h | ⟨o, h⟩) | h
  · exact .inl (.inl (e _ _ h))
  · exact .inl (.inr ⟨o, e _ _ h⟩)
  · exact .inr h
theorem sqL_mono (e : ∀ a o, Hc a = some o → Hc' a = some o) {a : Addr} {vs : List V} (h : SqL K Hc a vs) : SqL K Hc' a vs := by
  rcases h with (h | ⟨o, h⟩) | h
  · exact .inl (.inl (e _ _ h))
  · exact .inl (.inr ⟨o, e _ _ h⟩)
  · exact .inr h
theorem plT_mono (e : ∀ a o, Hc a = some o → Hc' a = some o) {a : Addr} {vs : List V} (h : PlT K Hc a vs) : PlT K Hc' a vs := by
  rcases h with ⟨o, h, d⟩ | h
  · exact .inl ⟨o, e _ _ h, d⟩
  · exact .inr h
theorem plT_sqT {a : Addr} {vs : List V} (h : PlT K Hc a vs) : SqT K Hc a vs := by
  rcases h with ⟨o, h, _⟩ | ⟨o, its, n, h1, h2, _, h3, h4, h5⟩
  · exact .inl (.inr ⟨o, h⟩)
  · exact .inr ⟨o, its, n, h1, h2, h3, h4, h5⟩
theorem pre_get {l : L <+: L'} {n : Nat} {a : Addr} (h : L[n]? = some a) : L'[n]? = some a := by
  obtain ⟨t, rfl⟩ := l
  rw [List.getElem?_append_left (List.getElem?_eq_some_iff.mp h).1]
  exact h
mutual
theorem RV.mono (l : L <+: L') (e : ∀ a o, Hc a = some o → Hc' a = some o) : ∀ {x : PV} {v : V}, RV K L Hc x v → RV K L' Hc' x v
  | .non, _, h => h
  | .bl _, _, h => h
  | .int _, _, h => h
  | .str _, _, h => h
  | .tup xs, _, h => by
    obtain ⟨a, vs, h1, h2, h3⟩ := h
    exact ⟨a, vs, h1, sqT_mono e h2, RVs.mono l e h3⟩
  | .lst xs, _, h => by
    obtain ⟨a, vs, h1, h2, h3⟩ := h
    exact ⟨a, vs, h1, e _ _ h2, RVs.mono l e h3⟩
  | .cl xs, _, h => by
    obtain ⟨a, vs, h1, h2, h3⟩ := h
    exact ⟨a, vs, h1, sqL_mono e h2, RVs.mono l e h3⟩
  | .obj n, _, h => by
    obtain ⟨a, h1, h2⟩ := h
    exact ⟨a, h1, pre_get (l := l) h2⟩
  | .dk ks xs, _, h => by
    obtain ⟨a, vs, h1, h2, h3, h4⟩ := h
    exact ⟨a, vs, h1, e _ _ h2, h3, RVs.mono l e h4⟩
  | .ins c ns xs, _, h => by
    obtain ⟨a, dx, vs, h1, h2, h3, h4⟩ := h
    exact ⟨a, dx, vs, h1, e _ _ h2, h3, RVs.mono l e h4⟩
  | .fn _, _, h => h
  | .pt xs, _, h => by
    obtain ⟨a, vs, h1, h2, h3⟩ := h
    exact ⟨a, vs, h1, plT_mono e h2, RVs.mono l e h3⟩
theorem RVs.mono (l : L <+: L') (e : ∀ a o, Hc a = some o → Hc' a = some o) : ∀ {xs : List PV} {vs : List V}, RVs K L Hc xs vs → RVs K L' Hc' xs vs
  | [], _, h => h
  | x :: xs, _, h => by
    obtain ⟨v, r, h1, h2, h3⟩ := h
    exact ⟨v, r, h1, RV.mono l e h2, RVs.mono l e h3⟩
end
theorem RF.mono (l : L <+: L') (e : ∀ a o, Hc a = some o → Hc' a = some o) : ∀ {xs : List (Str × PV)} {vs : List (Str × V)}, RF K L Hc xs vs → RF K L' Hc' xs vs
  | [], _, h => h
  | (f, x) :: xs, _, h => by
    obtain ⟨v, r, h1, h2, h3⟩ := h
    exact ⟨v, r, h1, RV.mono l e h2, RF.mono l e h3⟩
theorem SOk.mono (l : L <+: L') (e : ∀ a o, Hc a = some o → Hc' a = some o) : ∀ {o : SO} {ho : Option HO}, SOk K L Hc ho o → SOk K L' Hc' ho o
  | .lst xs, _, h => by
    obtain ⟨vs, h1, h2⟩ := h
    exact ⟨vs, h1, RVs.mono l e h2⟩
  | .dk ks xs, _, h => by
    obtain ⟨vs, h1, h2, h3⟩ := h
    exact ⟨vs, h1, h2, RVs.mono l e h3⟩
  | .ins c ns xs, _, h => by
    obtain ⟨dx, vs, h1, h2, h3⟩ := h
    exact ⟨dx, vs, h1, h2, RVs.mono l e h3⟩
theorem SOk.some : ∀ {o : SO} {ho : Option HO}, SOk K L Hc ho o → ∃ u, ho = some u
  | .lst _, _, ⟨_, h, _⟩ => ⟨_, h⟩
  | .dk _ _, _, ⟨_, h, _⟩ => ⟨_, h⟩
  | .ins _ _ _, _, ⟨_, _, h, _⟩ => ⟨_, h⟩
theorem RVs.len : ∀ {xs : List PV} {vs : List V}, RVs K L Hc xs vs → vs.length = xs.length
  | [], _, h => by
    have h : _ = [] := h
    subst h; rfl
  | x :: xs, _, h => by
    obtain ⟨v, r, rfl, _, h3⟩ := h
    simp [RVs.len h3]
theorem RVs.get : ∀ {xs : List PV} {vs : List V} {i : Nat} {x : PV}, RVs K L Hc xs vs → xs[i]? = some x → ∃ v, vs[i]? = some v ∧ RV K L Hc x v
  | [], _, _, _, _, e => by simp at e
  | x :: xs, _, 0, _, h, e => by
    obtain ⟨v, r, rfl, h2, h3⟩ := h
    simp at e; subst e
    exact ⟨v, rfl, h2⟩
  | x :: xs, _, i + 1, _, h, e => by
    obtain ⟨v, r, rfl, h2, h3⟩ := h
    obtain ⟨w, h4, h5⟩ := RVs.get (i := i) h3 (by simpa using e)
    exact ⟨w, by simpa using h4, h5⟩
theorem RVs.append : ∀ {xs ys : List PV} {vs ws : List V}, RVs K L Hc xs vs → RVs K L Hc ys ws → RVs K L Hc (xs ++ ys) (vs ++ ws)
  | [], _, _, _, h, h' => by
    have h : _ = [] := h
    subst h; exact h'
  | x :: xs, _, _, _, h, h' => by
    obtain ⟨v, r, rfl, h2, h3⟩ := h
    exact ⟨v, r ++ _, rfl, h2, RVs.append h3 h'⟩
theorem RVs.take : ∀ {xs : List PV} {vs : List V} (n : Nat), RVs K L Hc xs vs → RVs K L Hc (xs.take n) (vs.take n)
  | [], _, n, h => by
    have h : _ = [] := h
    subst h; simp; exact rfl
  | x :: xs, _, 0, h => rfl
  | x :: xs, _, n + 1, h => by
    obtain ⟨v, r, rfl, h2, h3⟩ := h
    exact ⟨v, r.take n, rfl, h2, RVs.take n h3⟩
theorem RVs.drop : ∀ {xs : List PV} {vs : List V} (n : Nat), RVs K L Hc xs vs → RVs K L Hc (xs.drop n) (vs.drop n)
  | [], _, n, h => by
    have h : _ = [] := h
    subst h; simp; exact rfl
  | x :: xs, _, 0, h => h
  | x :: xs, _, n + 1, h => by
    obtain ⟨v, r, rfl, h2, h3⟩ := h
    exact RVs.drop n h3
theorem RVs.set {y : PV} {w : V} (hy : RV K L Hc y w) : ∀ {xs : List PV} {vs : List V} (n : Nat), RVs K L Hc xs vs → RVs K L Hc (xs.set n y) (vs.set n w)
  | [], _, n, h => by
    have h : _ = [] := h
    subst h; exact rfl
  | x :: xs, _, 0, h => by
    obtain ⟨v, r, rfl, h2, h3⟩ := h
    exact ⟨w, r, rfl, hy, h3⟩
  | x :: xs, _, n + 1, h => by
    obtain ⟨v, r, rfl, h2, h3⟩ := h
    exact ⟨v, _, rfl, h2, RVs.set hy n h3⟩
theorem RVs.one {x : PV} {v : V} (h : RV K L Hc x v) : RVs K L Hc [x] [v] := ⟨v, [], rfl, h, rfl⟩
theorem RVs.nil : RVs K L Hc [] [] := rfl
theorem RVs.cons {x : PV} {v : V} {xs : List PV} {vs : List V} (h : RV K L Hc x v) (t : RVs K L Hc xs vs) : RVs K L Hc (x :: xs) (v :: vs) := ⟨v, vs, rfl, h, t⟩
end
structure Wd where
  L : List Addr
  O : List Addr
  H : Hp
  S : Store
  pin : Option (Addr × Addr × (Str → Prop)) := none
abbrev Wd.hc (w : Wd) : Hp := cut w.H w.O
structure WOk (K : PySem.W.Frag) (w : Wd) : Prop where
  sub : ∀ a ∈ w.L, a ∈ w.O
  nd : w.L.Nodup
  len : w.S.length = w.L.length
  st : ∀ (n : Nat) o a, w.S[n]? = some o → w.L[n]? = some a → SOk K w.L w.hc (w.H a) o
  dom : ∀ a ∈ w.O, ∃ o, w.H a = some o
structure WStep (w w' : Wd) : Prop where
  pre : w.L <+: w'.L
  keep : ∀ a o, w.H a = some o → a ∉ w.L → w'.H a = some o
  omono : ∀ a ∈ w.O, a ∈ w'.O
  oset : ∀ a ∈ w'.O, a ∈ w.O ∨ w.H a = none
  lset : ∀ a ∈ w'.L, a ∈ w.L ∨ w.H a = none
/-- no object that is there goes away -/
structure VStep (w w' : Wd) : Prop where
  pre : w.L <+: w'.L
  ext : ∀ a o, w.hc a = some o → w'.hc a = some o
theorem VStep.refl (w : Wd) : VStep w w := ⟨List.prefix_refl _, fun _ _ h => h⟩
theorem VStep.trans {w w1 w2 : Wd} (a : VStep w w1) (b : VStep w1 w2) : VStep w w2 := ⟨a.pre.trans b.pre, fun x o h => b.ext x o (a.ext x o h)⟩
section
variable {K : PySem.W.Frag} {w w1 w2 : Wd}
theorem WStep.refl (k : ∀ a ∈ w.L, a ∈ w.O) : WStep w w := ⟨List.prefix_refl _, fun _ _ h _ => h, fun _ h => h, fun _ h => .inl h, fun _ h => .inl h⟩
theorem WStep.ext (s : WStep w w1) (k : ∀ a ∈ w.L, a ∈ w.O) : ∀ a o, w.hc a = some o → w1.hc a = some o := fun a o h => by
  obtain ⟨h1, h2⟩ := cut_some h
  have h3 : a ∉ w1.O := fun z => by
    rcases s.oset a z with q | q
    · exact h1 q
    · rw [q] at h2; cases h2
  show cut _ _ _ = _
  rw [cut_out h3]
  exact s.keep a o h2 fun z => h1 (k a z)
theorem WStep.v (s : WStep w w1) (k : ∀ a ∈ w.L, a ∈ w.O) : VStep w w1 := ⟨s.pre, s.ext k⟩
theorem WStep.trans (a : WStep w w1) (b : WStep w1 w2) (kd : ∀ a ∈ w.L, ∃ o, w.H a = some o) (kd1 : ∀ a ∈ w1.L, ∃ o, w1.H a = some o) : WStep w w2 := by
  have none_back : ∀ x, w1.H x = none → x ∉ w.L → w.H x = none := fun x h nx => by
    cases q : w.H x with
    | none => rfl
    | some o =>
      rw [a.keep x o q nx] at h
      cases h
  refine ⟨a.pre.trans b.pre, fun x o h n => ?_, fun x h => b.omono x (a.omono x h), fun x h => ?_, fun x h => ?_⟩
  · refine b.keep x o (a.keep x o h n) fun z => ?_
    rcases a.lset x z with q | q
    · exact n q
    · rw [q] at h; cases h
  · rcases b.oset x h with q | q
    · exact a.oset x q
    · by_cases nx : x ∈ w.L
      · have : x ∈ w1.L := a.pre.subset nx
        obtain ⟨o, e⟩ := kd1 x this
        rw [q] at e; cases e
      · exact .inr (none_back x q nx)
  · rcases b.lset x h with q | q
    · exact a.lset x q
    · by_cases nx : x ∈ w.L
      · exact .inl nx
      · exact .inr (none_back x q nx)
theorem WOk.domL (k : WOk K w) : ∀ a ∈ w.L, ∃ o, w.H a = some o := fun a h => k.dom a (k.sub a h)
theorem WStep.tr (a : WStep w w1) (b : WStep w1 w2) (k : WOk K w) (k1 : WOk K w1) : WStep w w2 := a.trans b k.domL k1.domL
/-- a fresh address -/
theorem WOk.nin (k : WOk K w) {p : Addr} (h : w.H p = none) : p ∉ w.O := fun z => by
  obtain ⟨o, e⟩ := k.dom p z
  rw [h] at e; cases e
theorem WOk.ninL (k : WOk K w) {p : Addr} (h : w.H p = none) : p ∉ w.L := fun z => k.nin h (k.sub p z)
end
inductive Slot where
  | none | val (x : PV) | own (o : SO) | pin (c : Str) (fs : List (Str × PV))
abbrev Rho := List Slot
structure FI (K : PySem.W.Frag) (G w : Wd) (ρ : Rho) (σ : L2.St) : Prop where
  gok : WOk K G
  ok : WOk K w
  stp : WStep G w
  len : σ.length = ρ.length
  val : ∀ (i : Nat) x, ρ[i]? = some (.val x) → ∃ v, σ[i]? = some (some v) ∧ RV K w.L w.hc x v
  own : ∀ (i : Nat) o, ρ[i]? = some (.own o) → ∃ p, σ[i]? = some (some (.ref p)) ∧ p ∈ w.O ∧ p ∉ w.L ∧ G.H p = Option.none ∧ SOk K w.L w.hc (w.H p) o
  dis : ∀ (i j : Nat) oi oj, i ≠ j → ρ[i]? = some (.own oi) → ρ[j]? = some (.own oj) → σ[i]? ≠ σ[j]?
  pin : ∀ (i : Nat) c fs, ρ[i]? = some (.pin c fs) → ∃ a d P vs, G.pin = some (a, d, P) ∧ σ[i]? = some (some (.ref a)) ∧ P c ∧ w.hc d = some (.xd vs) ∧ RF K w.L w.hc fs vs
section
variable {K : PySem.W.Frag} {G w w' : Wd} {ρ : Rho} {σ : L2.St}
theorem FI.step (I : FI K G w ρ σ) (s : WStep w w') (k : WOk K w') : FI K G w' ρ σ := by
  have e := s.ext I.ok.sub
  refine ⟨I.gok, k, I.stp.tr s I.gok I.ok, I.len, fun i x h => ?_, fun i o h => ?_, I.dis, fun i c fs h => ?_⟩
  · obtain ⟨v, h1, h2⟩ := I.val i x h
    exact ⟨v, h1, h2.mono s.pre e⟩
  · obtain ⟨p, h1, h2, h3, h4, h5⟩ := I.own i o h
    obtain ⟨u, hu⟩ := I.ok.dom p h2
    have q := s.keep p u hu h3
    refine ⟨p, h1, s.omono p h2, fun z => ?_, h4, ?_⟩
    · rcases s.lset p z with r | r
      · exact h3 r
      · rw [r] at hu; cases hu
    · rw [q]
      rw [hu] at h5
      exact h5.mono s.pre e
  · obtain ⟨a, d, P, vs, h1, h2, h3, h4, h5⟩ := I.pin i c fs h
    exact ⟨a, d, P, vs, h1, h2, h3, e _ _ h4, h5.mono s.pre e⟩
theorem set_get {α : Type} {l : List α} {i j : Nat} {x y : α} (h : (l.set i x)[j]? = some y) : (j = i ∧ y = x) ∨ (j ≠ i ∧ l[j]? = some y) := by
  by_cases e : j = i
  · subst e
    by_cases hl : j < l.length
    · rw [List.getElem?_set_self hl] at h
      exact .inl ⟨rfl, (Option.some.inj h).symm⟩
    · rw [List.getElem?_eq_none (by simpa using hl)] at h
      cases h
  · rw [List.getElem?_set_ne (Ne.symm e)] at h
    exact .inr ⟨e, h⟩
theorem get_lt {α : Type} {l : List α} {i : Nat} {y : α} (h : l[i]? = some y) : i < l.length := (List.getElem?_eq_some_iff.mp h).1
/-- a slot is stored -/
theorem FI.set {i : Nat} {x : PV} {v : V} (I : FI K G w ρ σ) (r : RV K w.L w.hc x v) : FI K G w (ρ.set i (.val x)) (σ.set i (some v)) := by
  refine ⟨I.gok, I.ok, I.stp, by simpa using I.len, fun j y h => ?_, fun j o h => ?_, fun j k oj ok' n h1 h2 => ?_, fun j c fs h => ?_⟩
  · rcases set_get h with ⟨rfl, e⟩ | ⟨n, h⟩
    · cases e
      refine ⟨v, ?_, r⟩
      have := get_lt h
      rw [List.getElem?_set_self (by rw [I.len]; simpa using this)]
    · obtain ⟨v', a, b⟩ := I.val j y h
      exact ⟨v', by rw [List.getElem?_set_ne (Ne.symm n)]; exact a, b⟩
  · rcases set_get h with ⟨rfl, e⟩ | ⟨n, h⟩
    · cases e
    · obtain ⟨p, a, b⟩ := I.own j o h
      exact ⟨p, by rw [List.getElem?_set_ne (Ne.symm n)]; exact a, b⟩
  · rcases set_get h1 with ⟨rfl, e⟩ | ⟨n1, h1⟩
    · cases e
    · rcases set_get h2 with ⟨rfl, e⟩ | ⟨n2, h2⟩
      · cases e
      · rw [List.getElem?_set_ne (Ne.symm n1), List.getElem?_set_ne (Ne.symm n2)]
        exact I.dis j k oj ok' n h1 h2
  · rcases set_get h with ⟨rfl, e⟩ | ⟨n, h⟩
    · cases e
    · obtain ⟨a, d, P, vs, h1, h2, h3⟩ := I.pin j c fs h
      exact ⟨a, d, P, vs, h1, by rw [List.getElem?_set_ne (Ne.symm n)]; exact h2, h3⟩
/-- a slot is forgotten -/
theorem FI.wipe1 {i : Nat} {v : Option V} (I : FI K G w ρ σ) : FI K G w (ρ.set i .none) (σ.set i v) := by
  refine ⟨I.gok, I.ok, I.stp, by simpa using I.len, fun j y h => ?_, fun j o h => ?_, fun j k oj ok' n h1 h2 => ?_, fun j c fs h => ?_⟩
  · rcases set_get h with ⟨rfl, e⟩ | ⟨n, h⟩
    · cases e
    · obtain ⟨v', a, b⟩ := I.val j y h
      exact ⟨v', by rw [List.getElem?_set_ne (Ne.symm n)]; exact a, b⟩
  · rcases set_get h with ⟨rfl, e⟩ | ⟨n, h⟩
    · cases e
    · obtain ⟨p, a, b⟩ := I.own j o h
      exact ⟨p, by rw [List.getElem?_set_ne (Ne.symm n)]; exact a, b⟩
  · rcases set_get h1 with ⟨rfl, e⟩ | ⟨n1, h1⟩
    · cases e
    · rcases set_get h2 with ⟨rfl, e⟩ | ⟨n2, h2⟩
      · cases e
      · rw [List.getElem?_set_ne (Ne.symm n1), List.getElem?_set_ne (Ne.symm n2)]
        exact I.dis j k oj ok' n h1 h2
  · rcases set_get h with ⟨rfl, e⟩ | ⟨n, h⟩
    · cases e
    · obtain ⟨a, d, P, vs, h1, h2, h3⟩ := I.pin j c fs h
      exact ⟨a, d, P, vs, h1, by rw [List.getElem?_set_ne (Ne.symm n)]; exact h2, h3⟩
end
end Mir
set_option maxHeartbeats 4000000
namespace Mir
open PySem PySem.Spec PyProof.Rows L2
def Good {α : Type} (r : Res α) (ok : α → Store → Prop) (ex : Str → List (Str × PV) → Store → Prop) : Prop :=
  match r with
  | .ok a S => ok a S
  | .exc c fs S => ex c fs S
  | .bad => False
theorem Good.bind1 {α β : Type} {r : Res α} {f : α → Store → Res β} {ok ex} (h : Good (r.bind f) ok ex) : Good r (fun a S => Good (f a S) ok ex) ex := by
  cases r <;> exact h
theorem Good.imp {α : Type} {r : Res α} {ok ok' : α → Store → Prop} {ex ex'} (h : Good r ok ex) (h1 : ∀ a S, ok a S → ok' a S) (h2 : ∀ c fs S, ex c fs S → ex' c fs S) : Good r ok' ex' := by
  cases r with
  | ok a S => exact h1 a S h
  | exc c fs S => exact h2 c fs S h
  | bad => exact h
theorem Good.nox {α : Type} {r : Res α} {ok : α → Store → Prop} {ex ex'} (h : Good r.nox ok ex) : Good r ok ex' := by
  cases r with
  | ok a S => exact h
  | exc c fs S => exact h.elim
  | bad => exact h
section
variable (K : PySem.W.Frag) (mg : Str → Option Value)
def PostV (w : Wd) (Q : VK) : PV → Store → Prop := fun x S' => ∀ w' v, w'.S = S' → WStep w w' → WOk K w' → RV K w'.L w'.hc x v → Q v w'.H
def PostB (w : Wd) (Q : Bool → Hp → Prop) : Bool → Store → Prop := fun b S' => ∀ w', w'.S = S' → WStep w w' → WOk K w' → Q b w'.H
def PostA (w : Wd) (Q : List V → Hp → Prop) : List PV → Store → Prop := fun xs S' => ∀ w' vs, w'.S = S' → WStep w w' → WOk K w' → RVs K w'.L w'.hc xs vs → Q vs w'.H
def PostO (w : Wd) (Q : Option Int → Hp → Prop) : Option Int → Store → Prop := fun o S' => ∀ w', w'.S = S' → WStep w w' → WOk K w' → Q o w'.H
/-- a new object at p -/
def PostN (w : Wd) (Q : VK) : SO → Store → Prop := fun o S' => ∀ w' p, w'.S = S' → WStep w w' → WOk K w' → w.H p = none → p ∈ w'.O → p ∉ w'.L → SOk K w'.L w'.hc (w'.H p) o → Q (.ref p) w'.H
def ExP (E : XK) (w : Wd) : Str → List (Str × PV) → Store → Prop := fun c fs S' => ∀ w' C d vs, w'.S = S' → WStep w w' → WOk K w' → mg c = some (Value.ref C) → w'.hc d = some (.xd vs) → RF K w'.L w'.hc fs vs → E (.ref C) (some d) w'.H
end
section
variable {K : PySem.W.Frag} {mg : Str → Option Value} {w w1 : Wd} {Q : VK} {E : XK} {S : Store}
theorem PostV.step {x : PV} (s : WStep w w1) (k : WOk K w) (k1 : WOk K w1) (h : PostV K w Q x S) : PostV K w1 Q x S := fun w' v e s' k' r => h w' v e (s.tr s' k k1) k' r
theorem PostB.step {Q : Bool → Hp → Prop} {x : Bool} (s : WStep w w1) (k : WOk K w) (k1 : WOk K w1) (h : PostB K w Q x S) : PostB K w1 Q x S := fun w' e s' k' => h w' e (s.tr s' k k1) k'
theorem PostA.step {Q : List V → Hp → Prop} {x : List PV} (s : WStep w w1) (k : WOk K w) (k1 : WOk K w1) (h : PostA K w Q x S) : PostA K w1 Q x S := fun w' v e s' k' r => h w' v e (s.tr s' k k1) k' r
theorem PostN.step {x : SO} (s : WStep w w1) (k : WOk K w) (k1 : WOk K w1) (h : PostN K w Q x S) : PostN K w1 Q x S := fun w' p e s' k' n => h w' p e (s.tr s' k k1) k' (by
  cases q : w.H p with
  | none => rfl
  | some o =>
    by_cases z : p ∈ w.L
    · have := s.pre.subset z
      exact absurd this (k1.ninL n)
    · rw [s.keep p o q z] at n; cases n)
theorem ExP.step {c fs} (s : WStep w w1) (k : WOk K w) (k1 : WOk K w1) (h : ExP K mg E w c fs S) : ExP K mg E w1 c fs S := fun w' C d vs e s' k' => h w' C d vs e (s.tr s' k k1) k'
end
/-- what is wished for an exception, by the slots -/
abbrev EK := L2.St → XK
section
variable (K : PySem.W.Frag) (mg : Str → Option Value) (G : Wd) (E : EK)
def ESim (te : TE) (f : Rho → Store → Res PV) : Prop := ∀ w ρ σ Q, FI K G w ρ σ → Good (f ρ w.S) (PostV K w Q) (ExP K mg (E σ) w) → te σ w.H Q
def TSim (tt : TT) (f : Rho → Store → Res Bool) : Prop := ∀ w ρ σ Q, FI K G w ρ σ → Good (f ρ w.S) (PostB K w Q) (ExP K mg (E σ) w) → tt σ w.H Q
def ASim (ta : TA) (f : Rho → Store → Res (List PV)) : Prop := ∀ w ρ σ Q, FI K G w ρ σ → Good (f ρ w.S) (PostA K w Q) (ExP K mg (E σ) w) → ta σ w.H Q
def OSim (to : TO) (f : Rho → Store → Res (Option Int)) : Prop := ∀ w ρ σ Q, FI K G w ρ σ → Good (f ρ w.S) (PostO K w Q) (ExP K mg (E σ) w) → to σ w.H Q
def NSim (te : TE) (f : Rho → Store → Res SO) : Prop := ∀ w ρ σ Q, FI K G w ρ σ → Good (f ρ w.S) (PostN K w Q) (ExP K mg (E σ) w) → te σ w.H Q
end
section
variable (K : PySem.W.Frag) (mg : Str → Option Value) (G : Wd) (E : XK)
/-- an operator on values -/
def R2Sim (r : R2) (g : PV → PV → Store → Res PV) : Prop := ∀ w x y v u Q, WOk K w → RV K w.L w.hc x v → RV K w.L w.hc y u → Good (g x y w.S) (PostV K w Q) (ExP K mg E w) → r v u w.H Q
def R1Sim (r : V → Hp → VK → Prop) (g : PV → Store → Res PV) : Prop := ∀ w x v Q, WOk K w → RV K w.L w.hc x v → Good (g x w.S) (PostV K w Q) (ExP K mg E w) → r v w.H Q
def RASim (r : List V → Hp → VK → Prop) (g : List PV → Store → Res PV) : Prop := ∀ w xs vs Q, WOk K w → RVs K w.L w.hc xs vs → Good (g xs w.S) (PostV K w Q) (ExP K mg E w) → r vs w.H Q
def RAN (r : List V → Hp → VK → Prop) (g : List PV → Store → Res SO) : Prop := ∀ w xs vs Q, WOk K w → RVs K w.L w.hc xs vs → Good (g xs w.S) (PostN K w Q) (ExP K mg E w) → r vs w.H Q
end
variable (X : Cx) (G : Wd) (E : EK) in
structure FE (e : Expr) (te : TE) (f : Rho → Store → Res PV) : Prop where
  pe : PE X e te
  sim : ESim X.K X.mg G E te f
variable (X : Cx) (G : Wd) (E : EK) in
structure FN (e : Expr) (te : TE) (f : Rho → Store → Res SO) : Prop where
  pe : PE X e te
  sim : NSim X.K X.mg G E te f
variable (X : Cx) (G : Wd) (E : EK) in
structure FT (e : Expr) (te : TT) (f : Rho → Store → Res Bool) : Prop where
  pe : PT X e te
  sim : TSim X.K X.mg G E te f
variable (X : Cx) (G : Wd) (E : EK) in
structure FW (e : Expr) (te : TT) (f : Rho → Store → Res Bool) : Prop where
  pe : PW X e te
  sim : TSim X.K X.mg G E te f
variable (X : Cx) (G : Wd) (E : EK) in
structure FA (es : List Expr) (te : TA) (f : Rho → Store → Res (List PV)) : Prop where
  pe : PA X es te
  sim : ASim X.K X.mg G E te f
variable (X : Cx) (G : Wd) (E : EK) in
variable (X : Cx) (G : Wd) (E : EK) in
structure FO (e : Option Expr) (te : TO) (f : Rho → Store → Res (Option Int)) : Prop where
  pe : PO X e te
  sim : OSim X.K X.mg G E te f
def mVar (i : Nat) : Rho → Store → Res PV := fun ρ S => match ρ[i]? with
  | some (.val x) => .ok x S
  | _ => .bad
def mC (x : PV) : Rho → Store → Res PV := fun _ S => .ok x S
def mOp {α : Type} (g : PV → PV → Store → Res α) (a b : Rho → Store → Res PV) : Rho → Store → Res α := fun ρ S => (a ρ S).bind fun x S1 => (b ρ S1).bind fun y S2 => g x y S2
def mUn {α : Type} (g : PV → Store → Res α) (a : Rho → Store → Res PV) : Rho → Store → Res α := fun ρ S => (a ρ S).bind g
def mArgs {α : Type} (g : List PV → Store → Res α) (a : Rho → Store → Res (List PV)) : Rho → Store → Res α := fun ρ S => (a ρ S).bind g
def mNil : Rho → Store → Res (List PV) := fun _ S => .ok [] S
def mCons (a : Rho → Store → Res PV) (t : Rho → Store → Res (List PV)) : Rho → Store → Res (List PV) := fun ρ S => (a ρ S).bind fun x S1 => (t ρ S1).bind fun xs S2 => .ok (x :: xs) S2
def frz : SO → PV
  | .lst xs => .lst xs
  | .dk ks xs => .dk ks xs
  | .ins c ns xs => .ins c ns xs
def mFrz (a : Rho → Store → Res SO) : Rho → Store → Res PV := fun ρ S => (a ρ S).bind fun o S1 => .ok (frz o) S1
def toB : PV → Store → Res Bool
  | .bl b, S => .ok b S
  | _, _ => .bad
def mB (a : Rho → Store → Res PV) : Rho → Store → Res Bool := fun ρ S => (a ρ S).bind toB
def mAnd (a b : Rho → Store → Res Bool) : Rho → Store → Res Bool := fun ρ S => (a ρ S).bind fun c S1 => if c then b ρ S1 else .ok false S1
def mOr (a b : Rho → Store → Res Bool) : Rho → Store → Res Bool := fun ρ S => (a ρ S).bind fun c S1 => if c then .ok true S1 else b ρ S1
def mNot (a : Rho → Store → Res Bool) : Rho → Store → Res Bool := fun ρ S => (a ρ S).bind fun c S1 => .ok (!c) S1
def mIf {α : Type} (t : Rho → Store → Res Bool) (a b : Rho → Store → Res α) : Rho → Store → Res α := fun ρ S => (t ρ S).bind fun c S1 => if c then a ρ S1 else b ρ S1
section
variable {K : PySem.W.Frag} {w w' : Wd} {p : Addr} {o : SO}
def Wd.freeze (w : Wd) (p : Addr) : Wd := { w with O := w.O.filter fun a => !decide (a = p) }
theorem freeze_O {a : Addr} : a ∈ (w.freeze p).O ↔ a ∈ w.O ∧ a ≠ p := by
  unfold Wd.freeze
  simp [List.mem_filter]
theorem freeze_ext : ∀ a o, w.hc a = some o → (w.freeze p).hc a = some o := fun a o h => by
  obtain ⟨h1, h2⟩ := cut_some h
  show cut _ _ _ = _
  rw [cut_out fun z => h1 (freeze_O.mp z).1]
  exact h2
theorem freeze_at : (w.freeze p).hc p = w.H p := by
  show cut _ _ _ = _
  rw [cut_out fun z => (freeze_O.mp z).2 rfl]
  rfl
theorem freeze_ok (k : WOk K w) (hl : p ∉ w.L) : WOk K (w.freeze p) :=
  ⟨fun a h => freeze_O.mpr ⟨k.sub a h, fun e => hl (e ▸ h)⟩, k.nd, k.len, fun n o a h1 h2 => (k.st n o a h1 h2).mono (List.prefix_refl _) freeze_ext, fun a h => k.dom a (freeze_O.mp h).1⟩
theorem freeze_step {w0 : Wd} (s : WStep w0 w) (hn : p ∉ w0.O) : WStep w0 (w.freeze p) :=
  ⟨s.pre, s.keep, fun a h => freeze_O.mpr ⟨s.omono a h, fun e => hn (e ▸ h)⟩, fun a h => s.oset a (freeze_O.mp h).1, s.lset⟩
theorem freeze_rv (h : SOk K w.L w.hc (w.H p) o) : RV K (w.freeze p).L (w.freeze p).hc (frz o) (.ref p) := by
  cases o with
  | lst xs =>
    obtain ⟨vs, h1, h2⟩ := h
    exact ⟨p, vs, rfl, by rw [freeze_at]; exact h1, h2.mono (List.prefix_refl _) freeze_ext⟩
  | dk ks xs =>
    obtain ⟨vs, h1, h3, h2⟩ := h
    exact ⟨p, vs, rfl, by rw [freeze_at]; exact h1, h3, h2.mono (List.prefix_refl _) freeze_ext⟩
  | ins c ns xs =>
    obtain ⟨dx, vs, h1, h3, h2⟩ := h
    exact ⟨p, dx, vs, rfl, by rw [freeze_at]; exact h1, h3, h2.mono (List.prefix_refl _) freeze_ext⟩
end
section
variable {X : Cx} {G : Wd} {E : EK}
theorem FT.ofW {e te f} (h : FW X G E e te f) : FT X G E e te f := ⟨h.pe.pt, h.sim⟩
theorem fe_var {i : Nat} {x : Str} {pos : Pos} (h : PE X (.Name x pos) (tVar i)) : FE X G E (.Name x pos) (tVar i) (mVar i) := ⟨h, fun w ρ σ Q I h => by
  unfold mVar at h
  cases q : ρ[i]? with
  | none => rw [q] at h; exact h.elim
  | some s =>
    rw [q] at h
    cases s with
    | none => exact h.elim
    | own o => exact h.elim
    | pin c fs => exact h.elim
    | val x =>
      obtain ⟨v, e, r⟩ := I.val i x q
      exact ⟨v, e, h w v rfl (WStep.refl I.ok.sub) I.ok r⟩⟩
theorem sim_c {K mg G E} {x : PV} {v : V} (r : ∀ L Hc, RV K L Hc x v) : ESim K mg G E (tC v) (mC x) := fun w ρ σ Q I h => h w v rfl (WStep.refl I.ok.sub) I.ok (r _ _)
theorem fe_int {i j pos} : FE X G E (.Constant (.int i) j pos) (tC (.int i)) (mC (.int i)) := ⟨pe_int, sim_c fun _ _ => rfl⟩
theorem fe_bl {b j pos} : FE X G E (.Constant (.bool b) j pos) (tC (.bl b)) (mC (.bl b)) := ⟨pe_bl, sim_c fun _ _ => rfl⟩
theorem fe_str {x j pos} : FE X G E (.Constant (.str x) j pos) (tC (.str x)) (mC (.str x)) := ⟨pe_str, sim_c fun _ _ => rfl⟩
/-- a module's constant -/
theorem fe_glob {x : Str} {y : PV} {v : V} {u : Value} {pos : Pos} (hg : Gl X x) (hm : X.mg x = some u) (r : RelV v u) (hy : ∀ L Hc, RV X.K L Hc y v) (hd : (x == ("__debug__" : Str)) = false := by decide) : FE X G E (.Name x pos) (tC v) (mC y) :=
  ⟨pe_glob hg hm r hd, sim_c hy⟩
theorem sim_bin {K mg G E} {ta tb : TE} {fa fb} (ha : ESim K mg G E ta fa) (hb : ESim K mg G E tb fb) {w ρ σ} (I : FI K G w ρ σ) {α : Type} {g : PV → PV → Store → Res α} {ok : α → Store → Prop} {R : V → V → Hp → Prop}
    (h : Good (mOp g fa fb ρ w.S) ok (ExP K mg (E σ) w))
    (hr : ∀ w2 x y v u, WStep w w2 → WOk K w2 → RV K w2.L w2.hc x v → RV K w2.L w2.hc y u → Good (g x y w2.S) ok (ExP K mg (E σ) w) → R v u w2.H) : ta σ w.H fun v H1 => tb σ H1 fun u H2 => R v u H2 := by
  refine ha w ρ σ _ I (Good.imp (Good.bind1 h) (fun x S1 h1 => ?_) fun _ _ _ h => h)
  intro w1 v e1 s1 k1 r1
  subst e1
  have I1 := I.step s1 k1
  refine hb w1 ρ σ _ I1 (Good.imp (Good.bind1 h1) (fun y S2 h2 => ?_) fun _ _ _ h => h.step s1 I.ok k1)
  intro w2 u e2 s2 k2 r2
  subst e2
  exact hr w2 x y v u (s1.tr s2 I.ok k1) k2 (r1.mono s2.pre (s2.ext k1.sub)) r2 h2
theorem sim_op {K mg G E} {ta tb : TE} {fa fb} {r : R2} {g} (ha : ESim K mg G E ta fa) (hb : ESim K mg G E tb fb) (hr : ∀ σ, R2Sim K mg (E σ) r g) : ESim K mg G E (tOp r ta tb) (mOp g fa fb) := fun w ρ σ Q I h =>
  sim_bin ha hb I h fun w2 x y v u s k rx ry h2 => hr σ w2 x y v u Q k rx ry (Good.imp h2 (fun _ _ h => h.step s I.ok k) fun _ _ _ h => h.step s I.ok k)
theorem sim_un {K mg G E} {ta : TE} {fa} {r : V → Hp → VK → Prop} {g} (ha : ESim K mg G E ta fa) (hr : ∀ σ, R1Sim K mg (E σ) r g) : ESim K mg G E (tUn r ta) (mUn g fa) := fun w ρ σ Q I h => by
  refine ha w ρ σ _ I (Good.imp (Good.bind1 h) (fun x S1 h1 => ?_) fun _ _ _ h => h)
  intro w1 v e1 s1 k1 r1
  subst e1
  exact hr σ w1 x v Q k1 r1 (Good.imp h1 (fun _ _ h => h.step s1 I.ok k1) fun _ _ _ h => h.step s1 I.ok k1)
theorem fe_op {op a b pos ta tb fa fb} {r : R2} {g} (ho : OpR X (binaryOp op) r) (hr : ∀ σ, R2Sim X.K X.mg (E σ) r g) (ha : FE X G E a ta fa) (hb : FE X G E b tb fb) : FE X G E (.BinOp a op b pos) (tOp r ta tb) (mOp g fa fb) :=
  ⟨pe_op ho ha.pe hb.pe, sim_op ha.sim hb.sim hr⟩
theorem fe_un {op a pos ta fa} {r : V → Hp → VK → Prop} {g} (ho : UnR X (unaryOp op) r) (hr : ∀ σ, R1Sim X.K X.mg (E σ) r g) (ha : FE X G E a ta fa) : FE X G E (.UnaryOp op a pos) (tUn r ta) (mUn g fa) :=
  ⟨pe_un ho ha.pe, sim_un ha.sim hr⟩
theorem fe_cmp {op a b pos ta tb fa fb} {r : R2} {g} (ho : OpR X (compareOp op) r) (hr : ∀ σ, R2Sim X.K X.mg (E σ) r g) (ha : FE X G E a ta fa) (hb : FE X G E b tb fb) (hm : behindInMarks op b = false := by first | exact nobehind _ (by decide) (by decide) | rfl) :
    FE X G E (.Compare a [op] [b] pos) (tOp r ta tb) (mOp g fa fb) := ⟨pe_cmpR ho ha.pe hb.pe hm, sim_op ha.sim hb.sim hr⟩
theorem sim_test {K mg G E} {te : TE} {f} (h : ESim K mg G E te f) : TSim K mg G E (tTest te) (mB f) := fun w ρ σ Q I g => by
  refine h w ρ σ _ I (Good.imp (Good.bind1 g) (fun x S1 h1 => ?_) fun _ _ _ h => h)
  intro w1 v e1 s1 k1 r1
  subst e1
  cases x <;> first | exact h1.elim | skip
  rename_i b
  exact ⟨b, r1, h1 w1 rfl s1 k1⟩
theorem ft_cmp {op a b pos ta tb fa fb} {r : R2} {g} (ho : OpR X (compareOp op) r) (hr : ∀ σ, R2Sim X.K X.mg (E σ) r g) (ha : FE X G E a ta fa) (hb : FE X G E b tb fb) (hm : behindInMarks op b = false := by first | exact nobehind _ (by decide) (by decide) | rfl) :
    FT X G E (.Compare a [op] [b] pos) (tTest (tOp r ta tb)) (mB (mOp g fa fb)) := ⟨pt_cmpR ho ha.pe hb.pe hm, sim_test (sim_op ha.sim hb.sim hr)⟩
/-- a chain a < b < c -/
def mChain (g g' : PV → PV → Store → Res PV) (a b c : Rho → Store → Res PV) : Rho → Store → Res PV := fun ρ S => (a ρ S).bind fun x S1 => (b ρ S1).bind fun y S2 => (g x y S2).bind fun z S3 => (toB z S3).bind fun k S4 => if k then (c ρ S4).bind fun u S5 => g' y u S5 else .ok (.bl false) S4
theorem sim_chain {K mg G E} {ta tb tc : TE} {fa fb fc} {r r' : R2} {g g'} (ha : ESim K mg G E ta fa) (hb : ESim K mg G E tb fb) (hc : ESim K mg G E tc fc) (hr : ∀ σ, R2Sim K mg (E σ) r g) (hr' : ∀ σ, R2Sim K mg (E σ) r' g') : ESim K mg G E (tChain r r' ta tb tc) (mChain g g' fa fb fc) := fun w ρ σ Q I h => by
  refine ha w ρ σ _ I (Good.imp (Good.bind1 h) (fun x S1 h1 => ?_) fun _ _ _ h => h)
  intro w1 v e1 s1 k1 r1
  subst e1
  have I1 := I.step s1 k1
  refine hb w1 ρ σ _ I1 (Good.imp (Good.bind1 h1) (fun y S2 h2 => ?_) fun _ _ _ h => h.step s1 I.ok k1)
  intro w2 u e2 s2 k2 r2
  subst e2
  have I2 := I1.step s2 k2
  have s12 := s1.tr s2 I.ok k1
  refine hr σ w2 x y v u _ k2 (r1.mono s2.pre (s2.ext k1.sub)) r2 (Good.imp (Good.bind1 h2) (fun z S3 h3 => ?_) fun _ _ _ h => h.step s12 I.ok k2)
  intro w3 vz e3 s3 k3 r3
  subst e3
  have I3 := I2.step s3 k3
  have s13 := s12.tr s3 I.ok k2
  cases z <;> first | exact h3.elim | skip
  rename_i b
  refine ⟨b, r3, ?_⟩
  have h3 : Good (if b then (fc ρ w3.S).bind fun u S5 => g' y u S5 else .ok (.bl false) w3.S) (PostV K w Q) (ExP K mg (E σ) w) := h3
  cases b with
  | false =>
    rw [if_neg Bool.false_ne_true] at h3 ⊢
    exact h3 w3 (.bl false) rfl s13 k3 rfl
  | true =>
    rw [if_pos rfl] at h3 ⊢
    refine hc w3 ρ σ _ I3 (Good.imp (Good.bind1 h3) (fun c S5 h5 => ?_) fun _ _ _ h => h.step s13 I.ok k3)
    intro w4 vc e4 s4 k4 r4
    subst e4
    have s14 := s13.tr s4 I.ok k3
    exact hr' σ w4 y c u vc _ k4 (r2.mono (s3.pre.trans s4.pre) fun a o q => s4.ext k3.sub a o (s3.ext k2.sub a o q)) r4 (Good.imp h5 (fun _ _ h => h.step s14 I.ok k4) fun _ _ _ h => h.step s14 I.ok k4)
theorem fe_chain {op op' a b c pos ta tb tc fa fb fc} {r r' : R2} {g g'} (ho : OpR X (compareOp op) r) (ho' : OpR X (compareOp op') r') (hr : ∀ σ, R2Sim X.K X.mg (E σ) r g) (hr' : ∀ σ, R2Sim X.K X.mg (E σ) r' g') (ha : FE X G E a ta fa) (hb : FE X G E b tb fb) (hc : FE X G E c tc fc) (hm : lastMarks [op, op'] [b, c] = false := by rfl) :
    FE X G E (.Compare a [op, op'] [b, c] pos) (tChain r r' ta tb tc) (mChain g g' fa fb fc) := ⟨pe_chain ho ho' ha.pe hb.pe hc.pe (hm := hm), sim_chain ha.sim hb.sim hc.sim hr hr'⟩
/-- a value that is a bool, as a test -/
theorem ft_val {e te f} (h : FE X G E e te f) (he : ∀ whole, isTrue e X.env whole = (do let v ← whole; standAt e.pos; holding [v] (truthy v)) := by intro _; rfl) : FT X G E e (tB te) (mB f) := ⟨pt_val h.pe he, sim_test h.sim⟩
theorem sim_and {K mg G E} {t u : TT} {f g} (ha : TSim K mg G E t f) (hb : TSim K mg G E u g) : TSim K mg G E (tAnd t u) (mAnd f g) := fun w ρ σ Q I h => by
  refine ha w ρ σ _ I (Good.imp (Good.bind1 h) (fun c S1 h1 => ?_) fun _ _ _ h => h)
  intro w1 e1 s1 k1
  subst e1
  have h1 : Good (if c then g ρ w1.S else .ok false w1.S) (PostB K w Q) (ExP K mg (E σ) w) := h1
  cases c with
  | true =>
    rw [if_pos rfl] at h1 ⊢
    exact hb w1 ρ σ Q (I.step s1 k1) (Good.imp h1 (fun _ _ h => h.step s1 I.ok k1) fun _ _ _ h => h.step s1 I.ok k1)
  | false =>
    rw [if_neg Bool.false_ne_true] at h1 ⊢
    exact h1 w1 rfl s1 k1
theorem sim_or {K mg G E} {t u : TT} {f g} (ha : TSim K mg G E t f) (hb : TSim K mg G E u g) : TSim K mg G E (tOr t u) (mOr f g) := fun w ρ σ Q I h => by
  refine ha w ρ σ _ I (Good.imp (Good.bind1 h) (fun c S1 h1 => ?_) fun _ _ _ h => h)
  intro w1 e1 s1 k1
  subst e1
  have h1 : Good (if c then .ok true w1.S else g ρ w1.S) (PostB K w Q) (ExP K mg (E σ) w) := h1
  cases c with
  | false =>
    rw [if_neg Bool.false_ne_true] at h1 ⊢
    exact hb w1 ρ σ Q (I.step s1 k1) (Good.imp h1 (fun _ _ h => h.step s1 I.ok k1) fun _ _ _ h => h.step s1 I.ok k1)
  | true =>
    rw [if_pos rfl] at h1 ⊢
    exact h1 w1 rfl s1 k1
theorem fw_and1 {a pos t f} (h : FT X G E a t f) : FW X G E (.BoolOp .And [a] pos) t f := ⟨pw_and1 h.pe, h.sim⟩
theorem fw_or1 {a pos t f} (h : FT X G E a t f) : FW X G E (.BoolOp .Or [a] pos) t f := ⟨pw_or1 h.pe, h.sim⟩
theorem fw_and {a b rest pos t u f g} (ha : FT X G E a t f) (hb : FW X G E (.BoolOp .And (b :: rest) pos) u g) : FW X G E (.BoolOp .And (a :: b :: rest) pos) (tAnd t u) (mAnd f g) := ⟨pw_and ha.pe hb.pe, sim_and ha.sim hb.sim⟩
theorem fw_or {a b rest pos t u f g} (ha : FT X G E a t f) (hb : FW X G E (.BoolOp .Or (b :: rest) pos) u g) : FW X G E (.BoolOp .Or (a :: b :: rest) pos) (tOr t u) (mOr f g) := ⟨pw_or ha.pe hb.pe, sim_or ha.sim hb.sim⟩
theorem ft_not {a pos t f} (h : FT X G E a t f) : FT X G E (.UnaryOp .Not a pos) (tNot t) (mNot f) := ⟨pt_not h.pe, fun w ρ σ Q I g => by
  refine h.sim w ρ σ _ I (Good.imp (Good.bind1 g) (fun c S1 h1 => ?_) fun _ _ _ h => h)
  intro w1 e1 s1 k1
  subst e1
  exact h1 w1 rfl s1 k1⟩
/-- and, or, not as values (bools) -/
def mAndV (a b : Rho → Store → Res PV) : Rho → Store → Res PV := fun ρ S => (mB a ρ S).bind fun c S1 => if c then b ρ S1 else .ok (.bl false) S1
def mOrV (a b : Rho → Store → Res PV) : Rho → Store → Res PV := fun ρ S => (mB a ρ S).bind fun c S1 => if c then .ok (.bl true) S1 else b ρ S1
def mNotV (a : Rho → Store → Res PV) : Rho → Store → Res PV := fun ρ S => (mB a ρ S).bind fun c S1 => .ok (.bl (!c)) S1
theorem sim_boolV {K mg G E} {ta : TE} {fa} (ha : ESim K mg G E ta fa) {w ρ σ} (I : FI K G w ρ σ) {α : Type} {k : Bool → Store → Res α} {ok : α → Store → Prop} {R : V → Hp → Prop} (h : Good ((mB fa ρ w.S).bind k) ok (ExP K mg (E σ) w))
    (hr : ∀ w1 c, WStep w w1 → WOk K w1 → Good (k c w1.S) ok (ExP K mg (E σ) w) → R (.bl c) w1.H) : ta σ w.H R := by
  have h' : Good (fa ρ w.S) (fun x S => Good ((toB x S).bind k) ok (ExP K mg (E σ) w)) (ExP K mg (E σ) w) := by
    have h2 := Good.bind1 h
    have h3 := Good.bind1 h2
    refine Good.imp h3 (fun x S q => ?_) fun _ _ _ h => h
    cases x <;> first | exact q.elim | exact q
  refine ha w ρ σ _ I (Good.imp h' (fun x S1 h1 => ?_) fun _ _ _ h => h)
  intro w1 v e1 s1 k1 r1
  subst e1
  cases x <;> first | exact h1.elim | skip
  rename_i b
  have r1 : v = .bl b := r1
  subst r1
  exact hr w1 b s1 k1 h1
theorem fe_one {op a pos t f} (h : FE X G E a t f) : FE X G E (.BoolOp op [a] pos) t f := ⟨pe_one h.pe, h.sim⟩
theorem fe_and {a b rest pos t u f g} (ha : FE X G E a t f) (hb : FE X G E (.BoolOp .And (b :: rest) pos) u g) : FE X G E (.BoolOp .And (a :: b :: rest) pos) (tAndV t u) (mAndV f g) := ⟨pe_and ha.pe hb.pe, fun w ρ σ Q I h => by
  refine sim_boolV ha.sim I h fun w1 c s1 k1 h1 => ⟨c, rfl, ?_⟩
  cases c with
  | true =>
    rw [if_pos rfl] at h1 ⊢
    exact hb.sim w1 ρ σ Q (I.step s1 k1) (Good.imp h1 (fun _ _ h => h.step s1 I.ok k1) fun _ _ _ h => h.step s1 I.ok k1)
  | false =>
    rw [if_neg Bool.false_ne_true] at h1 ⊢
    exact h1 w1 (.bl false) rfl s1 k1 rfl⟩
theorem fe_or {a b rest pos t u f g} (ha : FE X G E a t f) (hb : FE X G E (.BoolOp .Or (b :: rest) pos) u g) : FE X G E (.BoolOp .Or (a :: b :: rest) pos) (tOrV t u) (mOrV f g) := ⟨pe_or ha.pe hb.pe, fun w ρ σ Q I h => by
  refine sim_boolV ha.sim I h fun w1 c s1 k1 h1 => ⟨c, rfl, ?_⟩
  cases c with
  | false =>
    rw [if_neg Bool.false_ne_true] at h1 ⊢
    exact hb.sim w1 ρ σ Q (I.step s1 k1) (Good.imp h1 (fun _ _ h => h.step s1 I.ok k1) fun _ _ _ h => h.step s1 I.ok k1)
  | true =>
    rw [if_pos rfl] at h1 ⊢
    exact h1 w1 (.bl true) rfl s1 k1 rfl⟩
theorem fe_not {a pos t f} (ha : FE X G E a t f) : FE X G E (.UnaryOp .Not a pos) (tNotV t) (mNotV f) := ⟨pe_not ha.pe, fun w ρ σ Q I h => sim_boolV ha.sim I h fun w1 c s1 k1 h1 => ⟨c, rfl, h1 w1 (.bl (!c)) rfl s1 k1 rfl⟩⟩
theorem fa_nil : FA X G E [] tNil mNil := ⟨pa_nil, fun w ρ σ Q I h => h w [] rfl (WStep.refl I.ok.sub) I.ok rfl⟩
theorem sim_cons {K mg G E} {te : TE} {t : TA} {f g} (ha : ESim K mg G E te f) (hr : ASim K mg G E t g) : ASim K mg G E (tCons te t) (mCons f g) := fun w ρ σ Q I h => by
  refine ha w ρ σ _ I (Good.imp (Good.bind1 h) (fun x S1 h1 => ?_) fun _ _ _ h => h)
  intro w1 v e1 s1 k1 r1
  subst e1
  refine hr w1 ρ σ _ (I.step s1 k1) (Good.imp (Good.bind1 h1) (fun xs S2 h2 => ?_) fun _ _ _ h => h.step s1 I.ok k1)
  intro w2 vs e2 s2 k2 r2
  subst e2
  exact h2 w2 (v :: vs) rfl (s1.tr s2 I.ok k1) k2 (RVs.cons (r1.mono s2.pre (s2.ext k1.sub)) r2)
theorem fa_cons {e es te t f g} (ha : FE X G E e te f) (hr : FA X G E es t g) (hs : starEach (e :: es) X.env = (false, eval e X.env) :: starEach es X.env := by rfl) : FA X G E (e :: es) (tCons te t) (mCons f g) := ⟨pa_cons ha.pe hr.pe hs, sim_cons ha.sim hr.sim⟩
theorem fo_none : FO X G E none tNoPart (fun _ S => .ok none S) := ⟨po_none, fun w ρ σ Q I h => h w rfl (WStep.refl I.ok.sub) I.ok⟩
def mPart (f : Rho → Store → Res PV) : Rho → Store → Res (Option Int) := fun ρ S => (f ρ S).bind fun x S1 => match x with
  | .int i => .ok (some i) S1
  | _ => .bad
theorem fo_some {e te f} (h : FE X G E e te f) : FO X G E (some e) (tPart te) (mPart f) := ⟨po_some h.pe, fun w ρ σ Q I g => by
  refine h.sim w ρ σ _ I (Good.imp (Good.bind1 g) (fun x S1 h1 => ?_) fun _ _ _ h => h)
  intro w1 v e1 s1 k1 r1
  subst e1
  cases x <;> first | exact h1.elim | skip
  rename_i i
  exact ⟨i, r1, h1 w1 rfl s1 k1⟩⟩
/-- a new object is laid: at an address that is cut -/
def Wd.laid (w : Wd) (p : Addr) (o : HO) : Wd := { w with H := upd w.H p o, O := p :: w.O }
theorem laid_ext {w : Wd} {p : Addr} {o : HO} (hp : w.H p = none) : ∀ a u, w.hc a = some u → (w.laid p o).hc a = some u := fun a u h => by
  obtain ⟨h1, h2⟩ := cut_some h
  have ne : a ≠ p := ne_of_none h2 hp
  show cut (upd w.H p o) (p :: w.O) a = some u
  rw [cut_out (by simp [ne, h1]), upd_ne ne]
  exact h2
theorem laid_ok {K w p o} (k : WOk K w) (hp : w.H p = none) : WOk K (w.laid p o) := by
  refine ⟨fun a h => List.mem_cons_of_mem _ (k.sub a h), k.nd, k.len, fun n u a h1 h2 => ?_, fun a h => ?_⟩
  · have na : a ≠ p := fun e => k.ninL hp (e ▸ List.mem_of_getElem? h2)
    have := (k.st n u a h1 h2).mono (List.prefix_refl _) (laid_ext (o := o) hp)
    show SOk K w.L _ (upd w.H p o a) u
    rw [upd_ne na]
    exact this
  · by_cases e : a = p
    · subst e; exact ⟨o, upd_same⟩
    · show ∃ u, upd w.H p o a = some u
      rw [upd_ne e]
      exact k.dom a ((List.mem_cons.mp h).resolve_left e)
theorem laid_step {K w p o} (k : WOk K w) (hp : w.H p = none) : WStep w (w.laid p o) :=
  ⟨List.prefix_refl _, fun a u h _ => by
    show upd w.H p o a = some u
    rw [upd_ne (ne_of_none h hp)]; exact h, fun a h => List.mem_cons_of_mem _ h, fun a h => by
    rcases List.mem_cons.mp h with e | h
    · exact .inr (e ▸ hp)
    · exact .inl h, fun a h => .inl h⟩
/-- .. and stands as a value -/
def Wd.put (w : Wd) (p : Addr) (o : HO) : Wd := { w with H := upd w.H p o }
theorem put_at {K w p o} (k : WOk K w) (hp : w.H p = none) : (w.put p o).hc p = some o := by
  show cut (upd w.H p o) w.O p = some o
  rw [cut_out (k.nin hp), upd_same]
theorem put_ext {w : Wd} {p : Addr} {o : HO} (hp : w.H p = none) : ∀ a u, w.hc a = some u → (w.put p o).hc a = some u := fun a u h => by
  obtain ⟨h1, h2⟩ := cut_some h
  show cut (upd w.H p o) w.O a = some u
  rw [cut_out h1, upd_ne (ne_of_none h2 hp)]
  exact h2
theorem put_ok {K w p o} (k : WOk K w) (hp : w.H p = none) : WOk K (w.put p o) := by
  refine ⟨k.sub, k.nd, k.len, fun n u a h1 h2 => ?_, fun a h => ?_⟩
  · have na : a ≠ p := fun e => k.ninL hp (e ▸ List.mem_of_getElem? h2)
    have := (k.st n u a h1 h2).mono (List.prefix_refl _) (put_ext (o := o) hp)
    show SOk K w.L _ (upd w.H p o a) u
    rw [upd_ne na]
    exact this
  · obtain ⟨u, e⟩ := k.dom a h
    exact ⟨u, by show upd w.H p o a = some u; rw [upd_ne (ne_of_none e hp)]; exact e⟩
theorem put_step {K w p o} (k : WOk K w) (hp : w.H p = none) : WStep w (w.put p o) :=
  ⟨List.prefix_refl _, fun a u h _ => by
    show upd w.H p o a = some u
    rw [upd_ne (ne_of_none h hp)]; exact h, fun a h => h, fun a h => .inl h, fun a h => .inl h⟩
def sizeM : Nat := 100000
theorem sizeM_le {n : Nat} (h : n ≤ sizeM) : n ≤ sizeLine := Nat.le_trans h (by decide)
theorem sizeM_lt {n : Nat} (h : n < sizeM) : n < sizeLine := Nat.lt_of_lt_of_le h (by decide)
def gTup (xs : List PV) (S : Store) : Res PV := if xs.length ≤ sizeM then .ok (.tup xs) S else .bad
def gLst (xs : List PV) (S : Store) : Res SO := if xs.length ≤ sizeM then .ok (.lst xs) S else .bad
theorem good_if {α : Type} {c : Prop} [Decidable c] {r : Res α} {ok ex} (h : Good (if c then r else .bad) ok ex) : c ∧ Good r ok ex := by
  by_cases q : c
  · rw [if_pos q] at h; exact ⟨q, h⟩
  · rw [if_neg q] at h; exact h.elim
/-- a new tuple -/
theorem post_tup {K w Q} {xs : List PV} {vs : List V} {S : Store} (k : WOk K w) (hS : w.S = S) (r : RVs K w.L w.hc xs vs) (h : PostV K w Q (.tup xs) S) : ∀ p, w.H p = none → Q (.ref p) (upd w.H p (.tup vs)) := fun p hp =>
  h (w.put p (.tup vs)) (.ref p) hS (put_step k hp) (put_ok k hp) ⟨p, vs, rfl, .inl (.inl (put_at k hp)), r.mono (List.prefix_refl _) (put_ext hp)⟩
theorem post_lst {K w Q} {xs : List PV} {vs : List V} {S : Store} (k : WOk K w) (hS : w.S = S) (r : RVs K w.L w.hc xs vs) (h : PostN K w Q (.lst xs) S) : ∀ p, w.H p = none → Q (.ref p) (upd w.H p (.lst vs)) := fun p hp =>
  h (w.laid p (.lst vs)) p hS (laid_step k hp) (laid_ok k hp) hp List.mem_cons_self (k.ninL hp) ⟨vs, by show upd w.H p _ p = _; rw [upd_same], r.mono (List.prefix_refl _) (laid_ext hp)⟩
theorem fe_tup {es x1 pos t f} (h : FA X G E es t f) : FE X G E (.Tuple es x1 pos) (tTup t) (mArgs gTup f) := ⟨pe_tup h.pe, fun w ρ σ Q I g => by
  refine h.sim w ρ σ _ I (Good.imp (Good.bind1 g) (fun xs S1 h1 => ?_) fun _ _ _ h => h)
  intro w1 vs e1 s1 k1 r1
  subst e1
  obtain ⟨c, h2⟩ := good_if h1
  exact ⟨by rw [r1.len]; exact sizeM_le c, post_tup k1 rfl r1 (PostV.step s1 I.ok k1 h2)⟩⟩
theorem fn_lst {es pos t f} (h : FA X G E es t f) : FN X G E (.List es pos) (tLst t) (mArgs gLst f) := ⟨pe_lst h.pe, fun w ρ σ Q I g => by
  refine h.sim w ρ σ _ I (Good.imp (Good.bind1 g) (fun xs S1 h1 => ?_) fun _ _ _ h => h)
  intro w1 vs e1 s1 k1 r1
  subst e1
  obtain ⟨c, h2⟩ := good_if h1
  exact ⟨by rw [r1.len]; exact sizeM_le c, post_lst k1 rfl r1 (PostN.step s1 I.ok k1 h2)⟩⟩
/-- a new object that is not changed any more -/
theorem sim_frz {K mg G E} {te : TE} {f} (h : NSim K mg G E te f) : ESim K mg G E te (mFrz f) := fun w ρ σ Q I g => by
  refine h w ρ σ Q I (Good.imp (Good.bind1 g) (fun o S1 h1 => ?_) fun _ _ _ h => h)
  intro w1 p e1 s1 k1 n1 o1 l1 r1
  exact h1 (w1.freeze p) (.ref p) e1 (freeze_step s1 (I.ok.nin n1)) (freeze_ok k1 l1) (freeze_rv r1)
theorem FN.fe {e te f} (h : FN X G E e te f) : FE X G E e te (mFrz f) := ⟨h.pe, sim_frz h.sim⟩
theorem sim_CB {K mg G E} {t : TA} {f} {r : List V → Hp → VK → Prop} {g} (h : ASim K mg G E t f) (hr : ∀ σ, RASim K mg (E σ) r g) : ESim K mg G E (tCB r t) (mArgs g f) := fun w ρ σ Q I q => by
  refine h w ρ σ _ I (Good.imp (Good.bind1 q) (fun xs S1 h1 => ?_) fun _ _ _ h => h)
  intro w1 vs e1 s1 k1 r1
  subst e1
  exact hr σ w1 xs vs Q k1 r1 (Good.imp h1 (fun _ _ h => h.step s1 I.ok k1) fun _ _ _ h => h.step s1 I.ok k1)
theorem sim_CBN {K mg G E} {t : TA} {f} {r : List V → Hp → VK → Prop} {g} (h : ASim K mg G E t f) (hr : ∀ σ, RAN K mg (E σ) r g) : NSim K mg G E (tCB r t) (mArgs g f) := fun w ρ σ Q I q => by
  refine h w ρ σ _ I (Good.imp (Good.bind1 q) (fun xs S1 h1 => ?_) fun _ _ _ h => h)
  intro w1 vs e1 s1 k1 r1
  subst e1
  exact hr σ w1 xs vs Q k1 r1 (Good.imp h1 (fun _ _ h => h.step s1 I.ok k1) fun _ _ _ h => h.step s1 I.ok k1)
theorem fe_callB {id : String} {x : Str} {p pos e es t f r g} (hc : CallR X (.builtin id) r) (hr : ∀ σ, RASim X.K X.mg (E σ) r g) (hm : X.mg x = none) (ha : FA X G E (e :: es) t f) (hg : Gl X x := by rfl) (hv : bootBuiltins x = some (.builtin id) := by decide +kernel) (hn : x ≠ "__name__" := by decide) (hdb : (x == ("__debug__" : Str)) = false := by decide)
    (he : starEach (e :: es) X.env = (false, eval e X.env) :: starEach es X.env := by rfl) (hpl : (backTo pos (starEach es X.env)).any (·.1) = false := by rfl) : FE X G E (.Call (.Name x p) (e :: es) [] pos) (tCB r t) (mArgs g f) :=
  ⟨pe_callB hc hg hm hv ha.pe hn hdb he hpl, sim_CB ha.sim hr⟩
theorem fe_callTy {T : String} {x : Str} {p pos e es t f r g} (hc : CallR X (.type T) r) (hr : ∀ σ, RASim X.K X.mg (E σ) r g) (hm : X.mg x = none) (ha : FA X G E (e :: es) t f) (hg : Gl X x := by rfl) (hv : bootBuiltins x = some (.type T) := by decide +kernel) (hn : x ≠ "__name__" := by decide) (hdb : (x == ("__debug__" : Str)) = false := by decide)
    (he : starEach (e :: es) X.env = (false, eval e X.env) :: starEach es X.env := by rfl) (hpl : (backTo pos (starEach es X.env)).any (·.1) = false := by rfl) : FE X G E (.Call (.Name x p) (e :: es) [] pos) (tCB r t) (mArgs g f) :=
  ⟨pe_callTy hc hg hm hv ha.pe hn hdb he hpl, sim_CB ha.sim hr⟩
theorem fn_callTy {T : String} {x : Str} {p pos e es t f r g} (hc : CallR X (.type T) r) (hr : ∀ σ, RAN X.K X.mg (E σ) r g) (hm : X.mg x = none) (ha : FA X G E (e :: es) t f) (hg : Gl X x := by rfl) (hv : bootBuiltins x = some (.type T) := by decide +kernel) (hn : x ≠ "__name__" := by decide) (hdb : (x == ("__debug__" : Str)) = false := by decide)
    (he : starEach (e :: es) X.env = (false, eval e X.env) :: starEach es X.env := by rfl) (hpl : (backTo pos (starEach es X.env)).any (·.1) = false := by rfl) : FN X G E (.Call (.Name x p) (e :: es) [] pos) (tCB r t) (mArgs g f) :=
  ⟨pe_callTy hc hg hm hv ha.pe hn hdb he hpl, sim_CBN ha.sim hr⟩
theorem fe_ix {a b pos ta tb fa fb} {r : R2} {g} (hr : IxR X r) (hs : ∀ σ, R2Sim X.K X.mg (E σ) r g) (ha : FE X G E a ta fa) (hb : FE X G E b tb fb) (hp : PlainIx b := by exact fun _ _ => rfl) : FE X G E (.Subscript a b pos) (tOp r ta tb) (mOp g fa fb) := ⟨pe_ix hr ha.pe hb.pe hp, sim_op ha.sim hb.sim hs⟩
def mSl {α : Type} (g : PV → Option Int → Option Int → Store → Res α) (a : Rho → Store → Res PV) (l h : Rho → Store → Res (Option Int)) : Rho → Store → Res α := fun ρ S => (a ρ S).bind fun x S1 => (l ρ S1).bind fun i S2 => (h ρ S2).bind fun j S3 => g x i j S3
def RSl (K : PySem.W.Frag) (mg : Str → Option Value) (E : XK) (r : V → Option Int → Option Int → Hp → VK → Prop) (g : PV → Option Int → Option Int → Store → Res PV) : Prop := ∀ w x v i j Q, WOk K w → RV K w.L w.hc x v → Good (g x i j w.S) (PostV K w Q) (ExP K mg E w) → r v i j w.H Q
theorem fe_slice {e lo hi p2 pos te tl th f fl fh r g} (hr : SlR X r) (hs : ∀ σ, RSl X.K X.mg (E σ) r g) (he : FE X G E e te f) (hl : FO X G E lo tl fl) (hh : FO X G E hi th fh) : FE X G E (.Subscript e (.Slice lo hi none p2) pos) (tSl r te tl th) (mSl g f fl fh) := ⟨pe_slice hr he.pe hl.pe hh.pe, fun w ρ σ Q I h => by
  refine he.sim w ρ σ _ I (Good.imp (Good.bind1 h) (fun x S1 h1 => ?_) fun _ _ _ h => h)
  intro w1 v e1 s1 k1 r1
  subst e1
  have I1 := I.step s1 k1
  refine hl.sim w1 ρ σ _ I1 (Good.imp (Good.bind1 h1) (fun i S2 h2 => ?_) fun _ _ _ h => h.step s1 I.ok k1)
  intro w2 e2 s2 k2
  subst e2
  have I2 := I1.step s2 k2
  have s12 := s1.tr s2 I.ok k1
  refine hh.sim w2 ρ σ _ I2 (Good.imp (Good.bind1 h2) (fun j S3 h3 => ?_) fun _ _ _ h => h.step s12 I.ok k2)
  intro w3 e3 s3 k3
  subst e3
  have s13 := s12.tr s3 I.ok k2
  exact hs σ w3 x v i j Q k3 (r1.mono (s2.pre.trans s3.pre) fun a o q => s3.ext k2.sub a o (s2.ext k1.sub a o q)) (Good.imp h3 (fun _ _ h => h.step s13 I.ok k3) fun _ _ _ h => h.step s13 I.ok k3)⟩
end
end Mir
set_option maxHeartbeats 4000000
namespace Mir
open PySem PySem.Spec PyProof.Rows L2
inductive Out where
  | nx (ρ : Rho) | rt (x : PV) | bk (ρ : Rho) | ct (ρ : Rho)
section
variable (K : PySem.W.Frag) (mg : Str → Option Value) (G : Wd) (E : XK)
def PostR (w : Wd) (Q : L2.St → Hp → Prop) : Rho → Store → Prop := fun ρ' S' => ∀ w' σ', w'.S = S' → VStep w w' → FI K G w' ρ' σ' → Q σ' w'.H
def PostX (Q : VK) : PV → Store → Prop := fun x S' => ∀ w' v, w'.S = S' → WStep G w' → WOk K w' → RV K w'.L (cut w'.H (G.O ++ w'.L)) x v → Q v w'.H
def PostS (w : Wd) (D : Ends) : Out → Store → Prop
  | .nx ρ', S' => PostR K G w D.nx ρ' S'
  | .bk ρ', S' => PostR K G w D.bk ρ' S'
  | .ct ρ', S' => PostR K G w D.ct ρ' S'
  | .rt x, S' => PostX K G D.rt x S'
def SSim (K : PySem.W.Frag) (mg : Str → Option Value) (G : Wd) (E : EK) (ts : TS) (f : Rho → Store → Res Out) : Prop := ∀ w ρ σ D, FI K G w ρ σ → Good (f ρ w.S) (PostS K G w D) (ExP K mg (E σ) G) → ts D σ w.H
def GSim (g : TG) (f : PV → Rho → Store → Res Rho) : Prop := ∀ w ρ σ x v Q, FI K G w ρ σ → RV K w.L w.hc x v → Good (f x ρ w.S) (PostR K G w Q) (ExP K mg E G) → g v σ w.H Q
end
theorem PostR.step {K G} {w w1 : Wd} {Q : L2.St → Hp → Prop} {ρ S} (s : VStep w w1) (h : PostR K G w Q ρ S) : PostR K G w1 Q ρ S := fun w' σ' e s' I => h w' σ' e (s.trans s') I
theorem PostS.step {K G} {w w1 : Wd} {D : Ends} {o S} (s : VStep w w1) (h : PostS K G w D o S) : PostS K G w1 D o S := by
  cases o with
  | nx ρ => exact PostR.step s h
  | bk ρ => exact PostR.step s h
  | ct ρ => exact PostR.step s h
  | rt x => exact h
variable (X : Cx) (G : Wd) (E : EK) in
structure FS (st : Stmt) (ts : TS) (f : Rho → Store → Res Out) : Prop where
  pe : PS X st ts
  sim : SSim X.K X.mg G E ts f
variable (X : Cx) (G : Wd) (E : EK) in
structure FSs (st : List Stmt) (ts : TS) (f : Rho → Store → Res Out) : Prop where
  pe : PSs X st ts
  sim : SSim X.K X.mg G E ts f
variable (X : Cx) (G : Wd) (E : XK) in
structure FG (e : Expr) (g : TG) (f : PV → Rho → Store → Res Rho) : Prop where
  pe : PG X e g
  sim : GSim X.K X.mg G E g f
section
variable {K : PySem.W.Frag} {G w w' : Wd} {ρ : Rho} {σ : L2.St} {p : Addr} {ho : HO} {o : SO}
theorem upd_cut {H : Hp} {O : List Addr} (h : p ∈ O) : cut (upd H p ho) O = cut H O := by
  funext a
  by_cases m : a ∈ O
  · rw [cut_in m, cut_in m]
  · rw [cut_out m, cut_out m, upd_ne fun e => m (by rw [e]; exact h)]
/-- an object that is cut, and no shared one, is written -/
def Wd.wr (w : Wd) (p : Addr) (ho : HO) : Wd := { w with H := upd w.H p ho }
theorem wr_hc (h : p ∈ w.O) : (w.wr p ho).hc = w.hc := upd_cut h
theorem wr_ok (k : WOk K w) (hO : p ∈ w.O) (hL : p ∉ w.L) : WOk K (w.wr p ho) := by
  refine ⟨k.sub, k.nd, k.len, fun n u a h1 h2 => ?_, fun a h => ?_⟩
  · have na : a ≠ p := fun e => hL (e ▸ List.mem_of_getElem? h2)
    rw [wr_hc hO]
    show SOk K w.L w.hc (upd w.H p ho a) u
    rw [upd_ne na]
    exact k.st n u a h1 h2
  · obtain ⟨u, e⟩ := k.dom a h
    by_cases q : a = p
    · subst q; exact ⟨ho, upd_same⟩
    · exact ⟨u, by show upd w.H p ho a = some u; rw [upd_ne q]; exact e⟩
theorem wr_step (s : WStep G w) (hn : G.H p = none) : WStep G (w.wr p ho) :=
  ⟨s.pre, fun a u h n => by show upd w.H p ho a = some u; rw [upd_ne (ne_of_none h hn)]; exact s.keep a u h n, s.omono, s.oset, s.lset⟩
theorem wr_v (hO : p ∈ w.O) : VStep w (w.wr p ho) := ⟨List.prefix_refl _, fun a u h => by rw [wr_hc hO]; exact h⟩
/-- .. a slot's own object -/
theorem FI.wrOwn {i : Nat} {oi : SO} (I : FI K G w ρ σ) (hi : ρ[i]? = some (.own oi)) (hσ : σ[i]? = some (some (.ref p))) (hO : p ∈ w.O) (hL : p ∉ w.L) (hn : G.H p = Option.none) (r : SOk K w.L w.hc (some ho) o) : FI K G (w.wr p ho) (ρ.set i (.own o)) σ := by
  refine ⟨I.gok, wr_ok I.ok hO hL, wr_step I.stp hn, by simpa using I.len, fun j y h => ?_, fun j oj h => ?_, fun j k oj ok' n h1 h2 => ?_, fun j c fs h => ?_⟩
  · rcases set_get h with ⟨rfl, e⟩ | ⟨n, h⟩
    · cases e
    · rw [wr_hc hO]; exact I.val j y h
  · rw [wr_hc hO]
    rcases set_get h with ⟨rfl, e⟩ | ⟨n, h⟩
    · cases e
      exact ⟨p, hσ, hO, hL, hn, by show SOk K w.L w.hc (upd w.H p ho p) o; rw [upd_same]; exact r⟩
    · obtain ⟨q, a, b, c, d, e⟩ := I.own j oj h
      have nq : q ≠ p := fun z => I.dis j i oj oi n h hi (by rw [a, hσ, z])
      exact ⟨q, a, b, c, d, by show SOk K w.L w.hc (upd w.H p ho q) oj; rw [upd_ne nq]; exact e⟩
  · have hl := get_lt hi
    have own_at : ∀ (k : Nat) (u : SO), (ρ.set i (Slot.own o))[k]? = some (Slot.own u) → ∃ u' : SO, ρ[k]? = some (Slot.own u') := fun k u h => by
      rcases set_get h with ⟨rfl, _⟩ | ⟨_, h⟩
      · exact ⟨_, hi⟩
      · exact ⟨_, h⟩
    obtain ⟨u1, e1⟩ := own_at j _ h1
    obtain ⟨u2, e2⟩ := own_at k _ h2
    exact I.dis j k u1 u2 n e1 e2
  · rcases set_get h with ⟨rfl, e⟩ | ⟨n, h⟩
    · cases e
    · rw [wr_hc hO]; exact I.pin j c fs h
/-- a new own object is stored in a slot -/
theorem FI.setOwn {i : Nat} {w0 : Wd} (I0 : FI K G w0 ρ σ) (s : WStep w0 w) (k : WOk K w) (hn : w0.H p = none) (hO : p ∈ w.O) (hL : p ∉ w.L) (r : SOk K w.L w.hc (w.H p) o) : FI K G w (ρ.set i (.own o)) (σ.set i (some (.ref p))) := by
  have I := I0.step s k
  have hg : G.H p = Option.none := by
    cases q : G.H p with
    | none => rfl
    | some u =>
      by_cases z : p ∈ G.L
      · obtain ⟨u', e⟩ := I0.ok.domL p (I0.stp.pre.subset z)
        rw [hn] at e; cases e
      · rw [I0.stp.keep p u q z] at hn; cases hn
  have far : ∀ (j : Nat) (oj : SO), ρ[j]? = some (Slot.own oj) → σ[j]? ≠ some (some (V.ref p)) := fun j oj h e => by
    obtain ⟨q, a, b, _⟩ := I0.own j oj h
    rw [a] at e
    cases e
    exact I0.ok.nin hn b
  refine ⟨I.gok, I.ok, I.stp, by simpa using I.len, fun j y h => ?_, fun j oj h => ?_, fun j k oj ok' n h1 h2 => ?_, fun j c fs h => ?_⟩
  · rcases set_get h with ⟨rfl, e⟩ | ⟨n, h⟩
    · cases e
    · obtain ⟨v', a, b⟩ := I.val j y h
      exact ⟨v', by rw [List.getElem?_set_ne (Ne.symm n)]; exact a, b⟩
  · rcases set_get h with ⟨rfl, e⟩ | ⟨n, h⟩
    · cases e
      have := get_lt h
      exact ⟨p, by rw [List.getElem?_set_self (by rw [I.len]; simpa using this)], hO, hL, hg, r⟩
    · obtain ⟨q, a, b⟩ := I.own j oj h
      exact ⟨q, by rw [List.getElem?_set_ne (Ne.symm n)]; exact a, b⟩
  · rcases set_get h1 with ⟨rfl, e⟩ | ⟨n1, h1'⟩
    · rcases set_get h2 with ⟨e2, _⟩ | ⟨n2, h2'⟩
      · exact absurd e2.symm n
      · have := get_lt h1
        rw [List.getElem?_set_self (by rw [I.len]; simpa using this), List.getElem?_set_ne (Ne.symm n2)]
        exact fun e => far k ok' h2' e.symm
    · rcases set_get h2 with ⟨rfl, e⟩ | ⟨n2, h2'⟩
      · have := get_lt h2
        rw [List.getElem?_set_self (by rw [I.len]; simpa using this), List.getElem?_set_ne (Ne.symm n1)]
        exact far j oj h1'
      · rw [List.getElem?_set_ne (Ne.symm n1), List.getElem?_set_ne (Ne.symm n2)]
        exact I.dis j k oj ok' n h1' h2'
  · rcases set_get h with ⟨rfl, e⟩ | ⟨n, h⟩
    · cases e
    · obtain ⟨a, d, P, vs, h1, h2, h3⟩ := I.pin j c fs h
      exact ⟨a, d, P, vs, h1, by rw [List.getElem?_set_ne (Ne.symm n)]; exact h2, h3⟩
/-- a slot's own object is not changed any more -/
theorem FI.frzOwn {i : Nat} (I : FI K G w ρ σ) (hi : ρ[i]? = some (.own o)) (hσ : σ[i]? = some (some (.ref p))) (hO : p ∈ w.O) (hL : p ∉ w.L) (hn : G.H p = Option.none) (r : SOk K w.L w.hc (w.H p) o) :
    FI K G (w.freeze p) (ρ.set i (.val (frz o))) σ := by
  refine ⟨I.gok, freeze_ok I.ok hL, freeze_step I.stp (I.gok.nin hn), by simpa using I.len, fun j y h => ?_, fun j oj h => ?_, fun j k oj ok' n h1 h2 => ?_, fun j c fs h => ?_⟩
  · rcases set_get h with ⟨rfl, e⟩ | ⟨n, h⟩
    · cases e
      exact ⟨_, hσ, freeze_rv r⟩
    · obtain ⟨v', a, b⟩ := I.val j y h
      exact ⟨v', a, b.mono (List.prefix_refl _) freeze_ext⟩
  · rcases set_get h with ⟨rfl, e⟩ | ⟨n, h⟩
    · cases e
    · obtain ⟨q, a, b, c, d, e⟩ := I.own j oj h
      have nq : q ≠ p := fun z => I.dis j i oj o n h hi (by rw [a, hσ, z])
      exact ⟨q, a, freeze_O.mpr ⟨b, nq⟩, c, d, e.mono (List.prefix_refl _) freeze_ext⟩
  · rcases set_get h1 with ⟨rfl, e⟩ | ⟨n1, h1'⟩
    · cases e
    · rcases set_get h2 with ⟨rfl, e⟩ | ⟨n2, h2'⟩
      · cases e
      · exact I.dis j k oj ok' n h1' h2'
  · rcases set_get h with ⟨rfl, e⟩ | ⟨n, h⟩
    · cases e
    · obtain ⟨a, d, P, vs, h1, h2, h3, h4, h5⟩ := I.pin j c fs h
      exact ⟨a, d, P, vs, h1, h2, h3, freeze_ext _ _ h4, h5.mono (List.prefix_refl _) freeze_ext⟩
theorem freeze_v : VStep w (w.freeze p) := ⟨List.prefix_refl _, freeze_ext⟩
/-- a shared object is written -/
def Wd.put2 (w : Wd) (p : Addr) (ho : HO) (n : Nat) (o : SO) : Wd := { w with H := upd w.H p ho, S := w.S.set n o }
theorem put2_ok {n : Nat} (k : WOk K w) (hp : w.L[n]? = some p) (r : SOk K w.L w.hc (some ho) o) : WOk K (w.put2 p ho n o) := by
  have hL : p ∈ w.L := List.mem_of_getElem? hp
  have hO := k.sub p hL
  have eq : (w.put2 p ho n o).hc = w.hc := upd_cut hO
  refine ⟨k.sub, k.nd, by show (w.S.set n o).length = _; rw [List.length_set]; exact k.len, fun m u a h1 h2 => ?_, fun a h => ?_⟩
  · rw [eq]
    show SOk K w.L w.hc (upd w.H p ho a) u
    rcases set_get h1 with ⟨rfl, e⟩ | ⟨ne, h1⟩
    · rw [show w.L[m]? = some a from h2] at hp
      cases hp
      rw [upd_same, e]
      exact r
    · have na : a ≠ p := fun e => by
        subst e
        obtain ⟨l1, e1⟩ := List.getElem?_eq_some_iff.mp (show w.L[m]? = some a from h2)
        obtain ⟨l2, e2⟩ := List.getElem?_eq_some_iff.mp hp
        exact ne ((List.getElem_inj k.nd).mp (e1.trans e2.symm))
      rw [upd_ne na]
      exact k.st m u a h1 h2
  · obtain ⟨u, e⟩ := k.dom a h
    by_cases q : a = p
    · subst q; exact ⟨ho, upd_same⟩
    · exact ⟨u, by show upd w.H p ho a = some u; rw [upd_ne q]; exact e⟩
theorem put2_step {n : Nat} (k : WOk K w) (hp : w.L[n]? = some p) : WStep w (w.put2 p ho n o) :=
  ⟨List.prefix_refl _, fun a u h na => by
    show upd w.H p ho a = some u
    rw [upd_ne fun e => na (by rw [e]; exact List.mem_of_getElem? hp)]; exact h, fun _ h => h, fun _ h => .inl h, fun _ h => .inl h⟩
/-- an object of ours becomes a shared one -/
def Wd.share (w : Wd) (p : Addr) (o : SO) : Wd := { w with L := w.L ++ [p], S := w.S ++ [o] }
theorem share_ok (k : WOk K w) (hO : p ∈ w.O) (hL : p ∉ w.L) (r : SOk K w.L w.hc (w.H p) o) : WOk K (w.share p o) := by
  have pre : w.L <+: w.L ++ [p] := List.prefix_append _ _
  refine ⟨fun a h => ?_, ?_, by show (w.S ++ [o]).length = (w.L ++ [p]).length; rw [List.length_append, List.length_append, k.len]; rfl, fun n u a h1 h2 => ?_, k.dom⟩
  · rcases List.mem_append.mp h with h | h
    · exact k.sub a h
    · rw [List.mem_singleton.mp h]; exact hO
  · refine List.nodup_append.mpr ⟨k.nd, by simp, fun a ha b hb e => ?_⟩
    rw [List.mem_singleton.mp hb] at e
    exact hL (e ▸ ha)
  · have h1 : (w.S ++ [o])[n]? = some u := h1
    have h2 : (w.L ++ [p])[n]? = some a := h2
    by_cases q : n < w.S.length
    · rw [List.getElem?_append_left q] at h1
      rw [List.getElem?_append_left (by rw [← k.len]; exact q)] at h2
      exact (k.st n u a h1 h2).mono pre fun _ _ h => h
    · rw [List.getElem?_append_right (Nat.le_of_not_lt q)] at h1
      rw [List.getElem?_append_right (by rw [← k.len]; exact Nat.le_of_not_lt q)] at h2
      have q0 : n - w.S.length = 0 := by
        have := get_lt h1
        simp at this; omega
      rw [q0] at h1
      rw [← k.len, q0] at h2
      cases h1; cases h2
      exact r.mono pre fun _ _ h => h
theorem share_step {w0 : Wd} (s : WStep w0 w) (hn : w0.H p = none) : WStep w0 (w.share p o) :=
  ⟨s.pre.trans (List.prefix_append _ _), s.keep, s.omono, s.oset, fun a h => by
    rcases List.mem_append.mp h with h | h
    · exact s.lset a h
    · rw [List.mem_singleton.mp h]; exact .inr hn⟩
theorem share_rv (k : WOk K w) : RV K (w.share p o).L (w.share p o).hc (.obj w.S.length) (.ref p) := ⟨p, rfl, by
  show (w.L ++ [p])[w.S.length]? = some p
  rw [k.len, List.getElem?_append_right (Nat.le_refl _), Nat.sub_self]
  rfl⟩
/-- an address of ours is none of the callers' -/
theorem cut_ret {x : PV} {v : V} (s : WStep G w) (k : WOk K w) (r : RV K w.L w.hc x v) : RV K w.L (cut w.H (G.O ++ w.L)) x v := r.mono (List.prefix_refl _) fun a u h => by
  obtain ⟨h1, h2⟩ := cut_some h
  rw [cut_out fun z => h1 ((List.mem_append.mp z).elim (s.omono a) (k.sub a))]
  exact h2
end
def gNm (i : Nat) : PV → Rho → Store → Res Rho := fun x ρ S => .ok (ρ.set i (.val x)) S
theorem fg_name {X : Cx} {G : Wd} {E : XK} {i : Nat} {x : Str} {pos : Pos} (h : PG X (.Name x pos) (gName i)) : FG X G E (.Name x pos) (gName i) (gNm i) := ⟨h, fun w ρ σ x v Q I r g => g w (σ.set i (some v)) rfl (VStep.refl w) (I.set r)⟩
def GsSim (K : PySem.W.Frag) (mg : Str → Option Value) (G : Wd) (E : XK) (g : TGs) (f : List PV → Rho → Store → Res Rho) : Prop := ∀ w ρ σ xs vs Q, FI K G w ρ σ → RVs K w.L w.hc xs vs → Good (f xs ρ w.S) (PostR K G w Q) (ExP K mg E G) → g vs σ w.H Q
variable (X : Cx) (G : Wd) (E : XK) in
structure FGs (es : List Expr) (g : TGs) (f : List PV → Rho → Store → Res Rho) : Prop where
  pe : PGs X es g
  sim : GsSim X.K X.mg G E g f
def gsNil : List PV → Rho → Store → Res Rho
  | [], ρ, S => .ok ρ S
  | _, _, _ => .bad
def gsCons (f : PV → Rho → Store → Res Rho) (g : List PV → Rho → Store → Res Rho) : List PV → Rho → Store → Res Rho
  | x :: xs, ρ, S => (f x ρ S).bind fun ρ' S' => g xs ρ' S'
  | _, _, _ => .bad
def gTupM (n : Nat) (g : List PV → Rho → Store → Res Rho) : PV → Rho → Store → Res Rho
  | .tup xs, ρ, S => if xs.length = n then g xs ρ S else .bad
  | _, _, _ => .bad
theorem fgs_nil {X : Cx} {G : Wd} {E : XK} : FGs X G E [] gNil gsNil := ⟨pgs_nil, fun w ρ σ xs vs Q I r g => by
  cases xs with
  | nil => exact ⟨r, g w σ rfl (VStep.refl w) I⟩
  | cons x xs => exact g.elim⟩
theorem fgs_cons {X : Cx} {G : Wd} {E : XK} {e es t u f g} (h1 : FG X G E e t f) (h2 : FGs X G E es u g) (pe : PGs X (e :: es) (gCons t u) := by exact pgs_cons (h1.pe) (h2.pe)) : FGs X G E (e :: es) (gCons t u) (gsCons f g) := ⟨pe, fun w ρ σ xs vs Q I r q => by
  cases xs with
  | nil => exact q.elim
  | cons x xs =>
    obtain ⟨v, rs, rfl, r1, r2⟩ := r
    refine ⟨v, rs, rfl, h1.sim w ρ σ x v _ I r1 (Good.imp (Good.bind1 q) (fun ρ1 S1 q1 => ?_) fun _ _ _ h => h)⟩
    intro w1 σ1 e1 s1 I1
    subst e1
    exact h2.sim w1 ρ1 σ1 xs rs Q I1 (r2.mono s1.pre s1.ext) (Good.imp q1 (fun _ _ h => h.step s1) fun _ _ _ h => h)⟩
end Mir
set_option maxHeartbeats 4000000
namespace Mir
open PySem PySem.Spec PyProof.Rows L2
def mSet (i : Nat) (f : Rho → Store → Res PV) : Rho → Store → Res Out := fun ρ S => (f ρ S).bind fun x S1 => .ok (.nx (ρ.set i (.val x))) S1
def mSetOwn (i : Nat) (f : Rho → Store → Res SO) : Rho → Store → Res Out := fun ρ S => (f ρ S).bind fun o S1 => .ok (.nx (ρ.set i (.own o))) S1
def mShare (i : Nat) (f : Rho → Store → Res SO) : Rho → Store → Res Out := fun ρ S => (f ρ S).bind fun o S1 => .ok (.nx (ρ.set i (.val (.obj S1.length)))) (S1 ++ [o])
def mAsg (f : Rho → Store → Res PV) (g : PV → Rho → Store → Res Rho) : Rho → Store → Res Out := fun ρ S => (f ρ S).bind fun x S1 => (g x ρ S1).bind fun ρ' S2 => .ok (.nx ρ') S2
def mDrop (f : Rho → Store → Res PV) : Rho → Store → Res Out := fun ρ S => (f ρ S).bind fun _ S1 => .ok (.nx ρ) S1
def mRet (f : Rho → Store → Res PV) : Rho → Store → Res Out := fun ρ S => (f ρ S).bind fun x S1 => .ok (.rt x) S1
def mRetOwn (i : Nat) : Rho → Store → Res Out := fun ρ S => match ρ[i]? with
  | some (.own o) => .ok (.rt (frz o)) S
  | _ => .bad
def mSkip : Rho → Store → Res Out := fun ρ S => .ok (.nx ρ) S
def mBrk : Rho → Store → Res Out := fun ρ S => .ok (.bk ρ) S
def mCnt : Rho → Store → Res Out := fun ρ S => .ok (.ct ρ) S
def mSeq (f g : Rho → Store → Res Out) : Rho → Store → Res Out := fun ρ S => (f ρ S).bind fun o S1 => match o with
  | .nx ρ' => g ρ' S1
  | o => .ok o S1
def mIfS (c : Rho → Store → Res Bool) (f g : Rho → Store → Res Out) : Rho → Store → Res Out := fun ρ S => (c ρ S).bind fun k S1 => if k then f ρ S1 else g ρ S1
def frzAt (i : Nat) (ρ : Rho) : Rho := match ρ[i]? with
  | some (.own o) => ρ.set i (.val (frz o))
  | _ => ρ
def mFrzS (i : Nat) (f : Rho → Store → Res Out) : Rho → Store → Res Out := fun ρ S => f (frzAt i ρ) S
/-- x.append(e), x a list of ours or a shared one -/
def mAppend (i : Nat) (f : Rho → Store → Res PV) : Rho → Store → Res Out := fun ρ S => match ρ[i]? with
  | some (.own (.lst xs)) => (f ρ S).bind fun y S1 => if xs.length < sizeM then .ok (.nx (ρ.set i (.own (.lst (xs ++ [y]))))) S1 else .bad
  | _ => .bad
def setIx (i : Nat) (xs : List PV) (y : PV) (ρ : Rho) : PV → Store → Res Out
  | .int k, S => match ixN xs.length k with
    | some j => .ok (.nx (ρ.set i (.own (.lst (xs.set j y))))) S
    | none => .bad
  | _, _ => .bad
def setIxO (n : Nat) (y : PV) (ρ : Rho) : PV → Store → Res Out
  | .int k, S => match S[n]? with
    | some (.lst xs) => match ixN xs.length k with
      | some j => .ok (.nx ρ) (S.set n (.lst (xs.set j y)))
      | none => .bad
    | _ => .bad
  | _, _ => .bad
/-- x[k] = e, x a list of ours, or a shared one -/
def mSetIx (i : Nat) (fk f : Rho → Store → Res PV) : Rho → Store → Res Out := fun ρ S => (f ρ S).bind fun y S1 => match ρ[i]? with
  | some (.own (.lst xs)) => (fk ρ S1).bind fun k S2 => setIx i xs y ρ k S2
  | some (.val (.obj n)) => (fk ρ S1).bind fun k S2 => setIxO n y ρ k S2
  | _ => .bad
def mForGo (g : PV → Rho → Store → Res Rho) (b : Rho → Store → Res Out) : List PV → Rho → Store → Res Out
  | [], ρ, S => .ok (.nx ρ) S
  | x :: xs, ρ, S => (g x ρ S).bind fun ρ1 S1 => (b ρ1 S1).bind fun o S2 => match o with
    | .nx ρ2 => mForGo g b xs ρ2 S2
    | .ct ρ2 => mForGo g b xs ρ2 S2
    | .bk ρ2 => .ok (.nx ρ2) S2
    | .rt x => .ok (.rt x) S2
def mFor (it : Rho → Store → Res (List PV)) (g : PV → Rho → Store → Res Rho) (b : Rho → Store → Res Out) : Rho → Store → Res Out := fun ρ S => (it ρ S).bind fun xs S1 => mForGo g b xs ρ S1
def mWhileGo (c : Rho → Store → Res Bool) (b : Rho → Store → Res Out) : Nat → Rho → Store → Res Out
  | 0, _, _ => .bad
  | n + 1, ρ, S => (c ρ S).bind fun k S1 => if k then (b ρ S1).bind fun o S2 => match o with
      | .nx ρ2 => mWhileGo c b n ρ2 S2
      | .ct ρ2 => mWhileGo c b n ρ2 S2
      | .bk ρ2 => .ok (.nx ρ2) S2
      | .rt x => .ok (.rt x) S2
    else .ok (.nx ρ) S1
def mWhile (n : Nat) (c : Rho → Store → Res Bool) (b : Rho → Store → Res Out) : Rho → Store → Res Out := fun ρ S => mWhileGo c b n ρ S
def mWipe (ρ : Rho) : List Nat → Rho
  | [] => ρ
  | v :: vs => (mWipe ρ vs).set v .none
def mLcGo (g : PV → Rho → Store → Res Rho) (t : Rho → Store → Res Bool) (e : Rho → Store → Res PV) (ρ : Rho) : List PV → Store → Res (List PV)
  | [], S => .ok [] S
  | x :: xs, S => (g x ρ S).nox.bind fun ρ1 S1 => (t ρ1 S1).nox.bind fun k S2 => if k then (e ρ1 S2).nox.bind fun y S3 => (mLcGo g t e ρ xs S3).bind fun ys S4 => .ok (y :: ys) S4 else mLcGo g t e ρ xs S2
def mLc (it : Rho → Store → Res (List PV)) (g : PV → Rho → Store → Res Rho) (t : Rho → Store → Res Bool) (e : Rho → Store → Res PV) (vs : List Nat) : Rho → Store → Res SO := fun ρ S =>
  (it ρ S).bind fun xs S1 => if xs.length ≤ sizeM then (mLcGo g t e (mWipe ρ vs) xs S1).bind fun ys S2 => .ok (.lst ys) S2 else .bad
def mTrue : Rho → Store → Res Bool := fun _ S => .ok true S
/-- the items that a for walks -/
def toSeq : PV → Store → Res (List PV)
  | .tup xs, S => .ok xs S
  | .pt xs, S => .ok xs S
  | .lst xs, S => .ok xs S
  | .cl xs, S => .ok xs S
  | _, _ => .bad
def mSeqOf (f : Rho → Store → Res PV) : Rho → Store → Res (List PV) := fun ρ S => (f ρ S).bind toSeq
def range62 (i : Int) : Bool := decide (-4611686018427387904 ≤ i) && decide (i < 4611686018427387904)
def gRange1 : List PV → Store → Res (List PV)
  | [.int j], S => if range62 j = true then .ok ((List.range j.toNat).map fun (k : Nat) => PV.int (k : Int)) S else .bad
  | _, _ => .bad
def gRange2 : List PV → Store → Res (List PV)
  | [.int i, .int j], S => if (range62 i && range62 j) = true then .ok ((List.range (j - i).toNat).map fun (k : Nat) => PV.int (i + (k : Int))) S else .bad
  | _, _ => .bad
def mRange (g : List PV → Store → Res (List PV)) (f : Rho → Store → Res (List PV)) : Rho → Store → Res (List PV) := fun ρ S => (f ρ S).bind g
section
variable {X : Cx} {G : Wd} {E : EK} {E0 : XK} {K : PySem.W.Frag} {mg : Str → Option Value}
theorem sim_set {te f} {i : Nat} (h : ESim K mg G E te f) : SSim K mg G E (tAsg te (gName i)) (mSet i f) := fun w ρ σ D I q => by
  refine h w ρ σ _ I (Good.imp (Good.bind1 q) (fun x S1 h1 => ?_) fun _ _ _ h => h.step I.stp I.gok I.ok)
  intro w1 v e1 s1 k1 r1
  exact h1 w1 (σ.set i (some v)) e1 (s1.v I.ok.sub) ((I.step s1 k1).set r1)
theorem sim_setOwn {te f} {i : Nat} (h : NSim K mg G E te f) : SSim K mg G E (tAsg te (gName i)) (mSetOwn i f) := fun w ρ σ D I q => by
  refine h w ρ σ _ I (Good.imp (Good.bind1 q) (fun x S1 h1 => ?_) fun _ _ _ h => h.step I.stp I.gok I.ok)
  intro w1 p e1 s1 k1 n1 o1 l1 r1
  exact h1 w1 (σ.set i (some (.ref p))) e1 (s1.v I.ok.sub) (FI.setOwn I s1 k1 n1 o1 l1 r1)
theorem sim_share {te f} {i : Nat} (h : NSim K mg G E te f) : SSim K mg G E (tAsg te (gName i)) (mShare i f) := fun w ρ σ D I q => by
  refine h w ρ σ _ I (Good.imp (Good.bind1 q) (fun x S1 h1 => ?_) fun _ _ _ h => h.step I.stp I.gok I.ok)
  intro w1 p e1 s1 k1 n1 o1 l1 r1
  have s2 := share_step (o := x) s1 n1
  have k2 := share_ok k1 o1 l1 r1
  refine h1 (w1.share p x) (σ.set i (some (.ref p))) ?_ (s2.v I.ok.sub) ((I.step s2 k2).set ?_)
  · show w1.S ++ [x] = S1 ++ [x]
    rw [e1]
  · rw [← e1]
    exact share_rv k1
theorem sim_asg {te f g fg} (h : ESim K mg G E te f) (hg : ∀ σ, GSim K mg G (E σ) g fg) : SSim K mg G E (tAsg te g) (mAsg f fg) := fun w ρ σ D I q => by
  refine h w ρ σ _ I (Good.imp (Good.bind1 q) (fun x S1 h1 => ?_) fun _ _ _ h => h.step I.stp I.gok I.ok)
  intro w1 v e1 s1 k1 r1
  subst e1
  exact hg σ w1 ρ σ x v D.nx (I.step s1 k1) r1 (Good.imp (Good.bind1 h1) (fun ρ' S2 h2 => PostR.step (s1.v I.ok.sub) h2) fun _ _ _ h => h)
theorem fs_set {i : Nat} {x : Str} {pos' pos e te f} (he : FE X G E e te f) (pe : PS X (.Assign [.Name x pos'] e pos) (tAsg te (gName i))) : FS X G E (.Assign [.Name x pos'] e pos) (tAsg te (gName i)) (mSet i f) := ⟨pe, sim_set he.sim⟩
theorem fs_own {i : Nat} {x : Str} {pos' pos e te f} (he : FN X G E e te f) (pe : PS X (.Assign [.Name x pos'] e pos) (tAsg te (gName i))) : FS X G E (.Assign [.Name x pos'] e pos) (tAsg te (gName i)) (mSetOwn i f) := ⟨pe, sim_setOwn he.sim⟩
theorem fs_share {i : Nat} {x : Str} {pos' pos e te f} (he : FN X G E e te f) (pe : PS X (.Assign [.Name x pos'] e pos) (tAsg te (gName i))) : FS X G E (.Assign [.Name x pos'] e pos) (tAsg te (gName i)) (mShare i f) := ⟨pe, sim_share he.sim⟩
theorem fs_asg {tg e pos te f g fg} (he : FE X G (fun _ => E0) e te f) (hg : FG X G E0 tg g fg) (pe : PS X (.Assign [tg] e pos) (tAsg te g)) : FS X G (fun _ => E0) (.Assign [tg] e pos) (tAsg te g) (mAsg f fg) := ⟨pe, sim_asg he.sim fun _ => hg.sim⟩
theorem fs_expr {e pos te f} (he : FE X G E e te f) (hs : swapsWith e none pos.line X.env = pure false := by rfl) : FS X G E (.Expr e pos) (tDrop te) (mDrop f) := ⟨ps_expr he.pe hs, fun w ρ σ D I q => by
  refine he.sim w ρ σ _ I (Good.imp (Good.bind1 q) (fun x S1 h1 => ?_) fun _ _ _ h => h.step I.stp I.gok I.ok)
  intro w1 v e1 s1 k1 r1
  exact h1 w1 σ e1 (s1.v I.ok.sub) (I.step s1 k1)⟩
theorem fs_ret {e pos te f} (he : FE X G E e te f) : FS X G E (.Return (some e) pos) (tRet te) (mRet f) := ⟨ps_ret he.pe, fun w ρ σ D I q => by
  refine he.sim w ρ σ _ I (Good.imp (Good.bind1 q) (fun x S1 h1 => ?_) fun _ _ _ h => h.step I.stp I.gok I.ok)
  intro w1 v e1 s1 k1 r1
  have I1 := I.step s1 k1
  exact h1 w1 v e1 I1.stp k1 (cut_ret I1.stp k1 r1)⟩
theorem fs_retOwn {i : Nat} {x : Str} {pos pos'} (h : PE X (.Name x pos') (tVar i)) : FS X G E (.Return (some (.Name x pos')) pos) (tRet (tVar i)) (mRetOwn i) := ⟨ps_ret h, fun w ρ σ D I q => by
  unfold mRetOwn at q
  split at q
  · rename_i o hi
    obtain ⟨p, a, b, c, d, r⟩ := I.own i o hi
    refine ⟨.ref p, a, ?_⟩
    have k2 := freeze_ok (p := p) I.ok c
    have s2 := freeze_step (p := p) I.stp (I.gok.nin d)
    exact q (w.freeze p) (.ref p) rfl s2 k2 (cut_ret s2 k2 (freeze_rv r))
  · exact q.elim⟩
theorem fs_continue {pos} : FS X G E (.Continue pos) tCont mCnt := ⟨ps_continue, fun w ρ σ D I q => q w σ rfl (VStep.refl w) I⟩
theorem fss_nil : FSs X G E [] tNext mSkip := ⟨pss_nil, fun w ρ σ D I q => q w σ rfl (VStep.refl w) I⟩
theorem fss_one {st ts f} (h : FS X G E st ts f) : FSs X G E [st] ts f := ⟨pss_one h.pe, h.sim⟩
theorem sim_seq {t u f g} (h : SSim K mg G (fun _ => E0) t f) (h2 : SSim K mg G (fun _ => E0) u g) : SSim K mg G (fun _ => E0) (tSeq t u) (mSeq f g) := fun w ρ σ D I q => by
  refine h w ρ σ { D with nx := u D } I (Good.imp (Good.bind1 q) (fun o S1 h1 => ?_) fun _ _ _ h => h)
  cases o with
  | nx ρ' =>
    intro w1 σ1 e1 s1 I1
    subst e1
    exact h2 w1 ρ' σ1 D I1 (Good.imp h1 (fun _ _ h => h.step s1) fun _ _ _ h => h)
  | bk ρ' => exact h1
  | ct ρ' => exact h1
  | rt x => exact h1
theorem fss_cons {st rest t u f g} (h : FS X G (fun _ => E0) st t f) (h2 : FSs X G (fun _ => E0) rest u g) : FSs X G (fun _ => E0) (st :: rest) (tSeq t u) (mSeq f g) := ⟨pss_cons h.pe h2.pe, sim_seq h.sim h2.sim⟩
theorem fss_frz {sts t f} (i : Nat) (h : FSs X G E sts t f) : FSs X G E sts t (mFrzS i f) := ⟨h.pe, fun w ρ σ D I q => by
  unfold mFrzS frzAt at q
  split at q
  · rename_i o hi
    obtain ⟨p, a, b, c, d, r⟩ := I.own i o hi
    exact h.sim (w.freeze p) _ σ D (I.frzOwn hi a b c d r) (Good.imp q (fun _ _ h => h.step freeze_v) fun _ _ _ h => h)
  · exact h.sim w ρ σ D I q⟩
theorem fs_if {c a b pos tc ta tb fc fa fb} (hc : FT X G E c tc fc) (ha : FSs X G E a ta fa) (hb : FSs X G E b tb fb) : FS X G E (.If c a b pos) (tIfS tc ta tb) (mIfS fc fa fb) := ⟨ps_if hc.pe ha.pe hb.pe, fun w ρ σ D I q => by
  refine hc.sim w ρ σ _ I (Good.imp (Good.bind1 q) (fun k S1 h1 => ?_) fun _ _ _ h => h.step I.stp I.gok I.ok)
  intro w1 e1 s1 k1
  subst e1
  have h1 : Good (if k then fa ρ w1.S else fb ρ w1.S) (PostS X.K G w D) (ExP X.K X.mg (E σ) G) := h1
  cases k with
  | true =>
    rw [if_pos rfl] at h1 ⊢
    exact ha.sim w1 ρ σ D (I.step s1 k1) (Good.imp h1 (fun _ _ h => h.step (s1.v I.ok.sub)) fun _ _ _ h => h)
  | false =>
    rw [if_neg Bool.false_ne_true] at h1 ⊢
    exact hb.sim w1 ρ σ D (I.step s1 k1) (Good.imp h1 (fun _ _ h => h.step (s1.v I.ok.sub)) fun _ _ _ h => h)⟩
def ItOk (K : PySem.W.Frag) (w1 : Wd) (J : It) (xs : List PV) : Prop := ∀ (i : Nat) w', VStep w1 w' → WOk K w' →
  (∀ x, xs[i]? = some x → J.go i w'.H ∧ ∀ v H', J.yld i w'.H v H' → ∃ w'', w''.H = H' ∧ w''.S = w'.S ∧ WStep w' w'' ∧ WOk K w'' ∧ RV K w''.L w''.hc x v) ∧ (xs.length ≤ i → J.stop i w'.H)
def ISim (K : PySem.W.Frag) (mg : Str → Option Value) (G : Wd) (E : EK) (wi : TI) (f : Rho → Store → Res (List PV)) : Prop := ∀ w ρ σ R, FI K G w ρ σ →
  Good (f ρ w.S) (fun xs S' => ∀ w1 J, w1.S = S' → WStep w w1 → WOk K w1 → ItOk K w1 J xs → R J w1.H) (ExP K mg (E σ) w) → wi σ w.H R
variable (X G E) in
structure FIt (tg iter : Expr) (wi : TI) (f : Rho → Store → Res (List PV)) : Prop where
  pe : PI X tg iter wi
  sim : ISim X.K X.mg G E wi f
theorem pi_or {tg iter : Expr} {wi wj : TI} (h : PI X tg iter wi) (h' : PI X tg iter wj) : PI X tg iter (fun σ H R => wi σ H R ∨ wj σ H R) := ⟨fun pins s σ H R I q => q.elim (h.run pins s σ H R I) (h'.run pins s σ H R I)⟩
theorem itok_list {w1 : Wd} {a : Addr} {xs : List PV} {vs : List V} (ha : SqL K w1.hc a vs) (r : RVs K w1.L w1.hc xs vs) : ItOk K w1 (Itl K a) xs := fun i w' s k => by
  have h1 : SqL K w'.H a vs := sqL_mono (fun a o h => (cut_some h).2) (sqL_mono s.ext ha)
  refine ⟨fun x e => ?_, fun e => ⟨vs, h1, by rw [r.len]; exact e⟩⟩
  obtain ⟨v, e1, e2⟩ := r.get e
  refine ⟨⟨vs, v, h1, e1⟩, fun v' H' h => ?_⟩
  obtain ⟨rfl, h⟩ := h
  refine ⟨w', rfl, rfl, WStep.refl k.sub, k, ?_⟩
  have := h vs h1
  rw [e1] at this
  cases this
  exact e2.mono s.pre s.ext
theorem itok_tup {w1 : Wd} {a : Addr} {xs : List PV} {vs : List V} (ha : SqT K w1.hc a vs) (r : RVs K w1.L w1.hc xs vs) : ItOk K w1 (Itt K a) xs := fun i w' s k => by
  have h1 : SqT K w'.H a vs := sqT_mono (fun a o h => (cut_some h).2) (sqT_mono s.ext ha)
  refine ⟨fun x e => ?_, fun e => ⟨vs, h1, by rw [r.len]; exact e⟩⟩
  obtain ⟨v, e1, e2⟩ := r.get e
  refine ⟨⟨vs, v, h1, e1⟩, fun v' H' h => ?_⟩
  obtain ⟨rfl, h⟩ := h
  refine ⟨w', rfl, rfl, WStep.refl k.sub, k, ?_⟩
  have := h vs h1
  rw [e1] at this
  cases this
  exact e2.mono s.pre s.ext
theorem hc_sqT {w : Wd} {a : Addr} {vs : List V} (h : SqT K w.hc a vs) : SqT K w.H a vs := sqT_mono (fun a o h => (cut_some h).2) h
theorem hc_sqL {w : Wd} {a : Addr} {vs : List V} (h : SqL K w.hc a vs) : SqL K w.H a vs := sqL_mono (fun a o h => (cut_some h).2) h
theorem hc_lst {w : Wd} {a : Addr} {o : HO} (h : w.hc a = some o) : w.H a = some o := (cut_some h).2
/-- for x in e: e a list or a tuple -/
theorem sim_seqOf {te f} (h : ESim K mg G E te f) : ISim K mg G E (fun σ H R => iList K te σ H R ∨ iTup K te σ H R) (mSeqOf f) := fun w ρ σ R I q => by
  have q' := Good.bind1 q
  cases e1 : f ρ w.S with
  | bad => rw [e1] at q'; exact q'.elim
  | exc c fs S =>
    refine .inl (h w ρ σ _ I ?_)
    rw [e1] at q' ⊢
    exact q'
  | ok x S =>
    rw [e1] at q'
    cases x with
    | tup xs =>
      refine .inr (h w ρ σ _ I ?_)
      rw [e1]
      intro w1 v e2 s1 k1 r1
      obtain ⟨a, vs, rfl, r2, r3⟩ := r1
      exact ⟨a, rfl, ⟨vs, hc_sqT r2⟩, q' w1 _ e2 s1 k1 (itok_tup r2 r3)⟩
    | lst xs =>
      refine .inl (h w ρ σ _ I ?_)
      rw [e1]
      intro w1 v e2 s1 k1 r1
      obtain ⟨a, vs, rfl, r2, r3⟩ := r1
      have r2 : SqL K w1.hc a vs := .inl (.inl r2)
      exact ⟨a, rfl, ⟨vs, hc_sqL r2⟩, q' w1 _ e2 s1 k1 (itok_list r2 r3)⟩
    | cl xs =>
      refine .inl (h w ρ σ _ I ?_)
      rw [e1]
      intro w1 v e2 s1 k1 r1
      obtain ⟨a, vs, rfl, r2, r3⟩ := r1
      exact ⟨a, rfl, ⟨vs, hc_sqL r2⟩, q' w1 _ e2 s1 k1 (itok_list r2 r3)⟩
    | non => exact q'.elim
    | bl b => exact q'.elim
    | int i => exact q'.elim
    | str x => exact q'.elim
    | obj n => exact q'.elim
    | dk ks xs => exact q'.elim
    | ins c ns xs => exact q'.elim
    | fn x => exact q'.elim
    | pt xs =>
      refine .inr (h w ρ σ _ I ?_)
      rw [e1]
      intro w1 v e2 s1 k1 r1
      obtain ⟨a, vs, rfl, r2, r3⟩ := r1
      exact ⟨a, rfl, ⟨vs, hc_sqT (plT_sqT r2)⟩, q' w1 _ e2 s1 k1 (itok_tup (plT_sqT r2) r3)⟩
theorem fit_seq {tg e te f} (h : FE X G E e te f) : FIt X G E tg e (fun σ H R => iList X.K te σ H R ∨ iTup X.K te σ H R) (mSeqOf f) := ⟨pi_or (pi_list h.pe) (pi_tup h.pe), sim_seqOf h.sim⟩
theorem itok_range {w1 : Wd} {lo : Int} {n : Nat} : ItOk K w1 (Itr lo n) ((List.range n).map fun (k : Nat) => PV.int (lo + (k : Int))) := fun i w' s k => by
  refine ⟨fun x e => ?_, fun e => (show n ≤ i by simpa using e)⟩
  have hi : i < n := by have := get_lt e; simpa using this
  rw [List.getElem?_map, List.getElem?_range hi] at e
  cases e
  refine ⟨hi, fun v' H' h => ?_⟩
  obtain ⟨rfl, rfl⟩ := h
  exact ⟨w', rfl, rfl, WStep.refl k.sub, k, rfl⟩
theorem range62_of {i : Int} (h : range62 i = true) : -(2 ^ 62) ≤ i ∧ i < 2 ^ 62 := by
  unfold range62 at h
  simp only [Bool.and_eq_true, decide_eq_true_eq] at h
  omega
theorem fit_range1 {tg a p pos ta fa} (hm : X.mg "range" = none) (ha : FA X G E [a] ta fa) (hg : Gl X "range" := by rfl) (hs : starEach [a] X.env = [(false, eval a X.env)] := by rfl) : FIt X G E tg (.Call (.Name "range" p) [a] [] pos) (iRng1 ta) (mRange gRange1 fa) :=
  ⟨pi_range1 hg hm ha.pe hs, fun w ρ σ R I q => by
  refine ha.sim w ρ σ _ I (Good.imp (Good.bind1 q) (fun xs S1 h1 => ?_) fun _ _ _ h => h)
  intro w1 vs e1 s1 k1 r1
  match xs, h1, r1 with
  | [.int j], h1, r1 =>
    obtain ⟨v, r, rfl, e2, e3⟩ := r1
    have e2 : v = .int j := e2
    have e3 : r = [] := e3
    subst e2 e3
    obtain ⟨c, h2⟩ := good_if h1
    obtain ⟨c1, c2⟩ := range62_of c
    refine ⟨j, rfl, c1, c2, h2 w1 _ e1 s1 k1 ?_⟩
    have := itok_range (K := X.K) (w1 := w1) (lo := 0) (n := j.toNat)
    simpa using this⟩
theorem fit_range2 {tg a b p pos ta fa} (hm : X.mg "range" = none) (ha : FA X G E [a, b] ta fa) (hg : Gl X "range" := by rfl) (hs : starEach [a, b] X.env = [(false, eval a X.env), (false, eval b X.env)] := by rfl) (hs2 : starEach [b] X.env = [(false, eval b X.env)] := by rfl) : FIt X G E tg (.Call (.Name "range" p) [a, b] [] pos) (iRng2 ta) (mRange gRange2 fa) :=
  ⟨pi_range2 hg hm ha.pe hs hs2, fun w ρ σ R I q => by
  refine ha.sim w ρ σ _ I (Good.imp (Good.bind1 q) (fun xs S1 h1 => ?_) fun _ _ _ h => h)
  intro w1 vs e1 s1 k1 r1
  match xs, h1, r1 with
  | [.int i, .int j], h1, r1 =>
    obtain ⟨v, r, rfl, e2, v2, r2, rfl, e3, e4⟩ := r1
    have e2 : v = .int i := e2
    have e3 : v2 = .int j := e3
    have e4 : r2 = [] := e4
    subst e2 e3 e4
    obtain ⟨c, h2⟩ := good_if h1
    rw [Bool.and_eq_true] at c
    obtain ⟨c1, c2⟩ := range62_of c.1
    obtain ⟨c3, c4⟩ := range62_of c.2
    exact ⟨i, j, rfl, ⟨c1, c2, c3, c4⟩, h2 w1 _ e1 s1 k1 itok_range⟩⟩
theorem fs_for {tg iter body pos wi g tb fi fg fb} (hi : FIt X G (fun _ => E0) tg iter wi fi) (hg : FG X G E0 tg g fg) (hb : FSs X G (fun _ => E0) body tb fb) (pe : PS X (.For tg iter body [] pos) (tFor wi g tb)) : FS X G (fun _ => E0) (.For tg iter body [] pos) (tFor wi g tb) (mFor fi fg fb) := ⟨pe, fun w ρ σ D I q => by
  refine hi.sim w ρ σ _ I (Good.imp (Good.bind1 q) (fun xs S1 h1 => ?_) fun _ _ _ h => h.step I.stp I.gok I.ok)
  intro w1 J e1 s1 k1 it
  subst e1
  refine ⟨fun i m σ H => ∃ w2 ρ2, w2.H = H ∧ FI X.K G w2 ρ2 σ ∧ VStep w1 w2 ∧ m + i = xs.length ∧ Good (mForGo fg fb (xs.drop i) ρ2 w2.S) (PostS X.K G w2 D) (ExP X.K X.mg E0 G), ⟨xs.length, w1, ρ, rfl, I.step s1 k1, VStep.refl _, rfl, Good.imp h1 (fun _ _ h => h.step (s1.v I.ok.sub)) fun _ _ _ h => h⟩, ?_⟩
  rintro i m σ2 H2 ⟨w2, ρ2, rfl, I2, v2, em, h2⟩
  by_cases hx : i < xs.length
  · have ed : xs.drop i = xs[i] :: xs.drop (i + 1) := (List.getElem_cons_drop hx).symm
    rw [ed] at h2
    obtain ⟨go, yl⟩ := (it i w2 v2 I2.ok).1 xs[i] (List.getElem?_eq_getElem hx)
    refine .inr ⟨go, fun σ' H' => ∃ w3 ρ3, w3.H = H' ∧ FI X.K G w3 ρ3 σ' ∧ VStep w1 w3 ∧ Good (mForGo fg fb (xs.drop (i + 1)) ρ3 w3.S) (PostS X.K G w3 D) (ExP X.K X.mg E0 G), ?_, fun v H' hy => ?_⟩
    · rintro σ' H' ⟨w3, ρ3, a, b, c, d⟩
      exact ⟨m - 1, by omega, w3, ρ3, a, b, c, by omega, d⟩
    · obtain ⟨w3, rfl, es, s3, k3, r3⟩ := yl v H' hy
      rw [← es] at h2
      have v3 := v2.trans (s3.v I2.ok.sub)
      refine hg.sim w3 ρ2 σ2 xs[i] v _ (I2.step s3 k3) r3 (Good.imp (Good.bind1 h2) (fun ρ4 S4 h4 => ?_) fun _ _ _ h => h)
      intro w4 σ4 e4 s4 I4
      subst e4
      refine hb.sim w4 ρ4 σ4 _ I4 (Good.imp (Good.bind1 h4) (fun o S5 h5 => ?_) fun _ _ _ h => h)
      have v24 : VStep w2 w4 := (s3.v I2.ok.sub).trans s4
      cases o with
      | nx ρ5 =>
        intro w5 σ5 e5 s5 I5
        subst e5
        exact ⟨w5, ρ5, rfl, I5, (v3.trans s4).trans s5, Good.imp h5 (fun _ _ h => h.step (v24.trans s5)) fun _ _ _ h => h⟩
      | ct ρ5 =>
        intro w5 σ5 e5 s5 I5
        subst e5
        exact ⟨w5, ρ5, rfl, I5, (v3.trans s4).trans s5, Good.imp h5 (fun _ _ h => h.step (v24.trans s5)) fun _ _ _ h => h⟩
      | bk ρ5 =>
        intro w5 σ5 e5 s5 I5
        exact h5 w5 σ5 e5 (v24.trans s5) I5
      | rt x => exact h5
  · refine .inl ⟨(it i w2 v2 I2.ok).2 (by omega), ?_⟩
    rw [List.drop_eq_nil_of_le (by omega)] at h2
    exact h2 w2 σ2 rfl (VStep.refl _) I2⟩
end
end Mir
set_option maxHeartbeats 4000000
namespace Mir
open PySem PySem.Spec PyProof.Rows L2
theorem wipe_at : ∀ {vs : List Nat} {σ : L2.St} {i : Nat}, i ∈ vs → i < σ.length → (wipe σ vs)[i]? = some none
  | v :: vs, σ, i, h, hl => by
    unfold wipe
    by_cases e : v = i
    · subst e
      rw [List.getElem?_set_self (by rw [wipe_length]; exact hl)]
    · rw [List.getElem?_set_ne e]
      exact wipe_at ((List.mem_cons.mp h).resolve_left (Ne.symm e)) hl
/-- what is stored at the block's own names goes away -/
theorem wipe_wipe (σ σ2 : L2.St) (vs : List Nat) (hl : σ2.length = σ.length) (h : ∀ i, i ∉ vs → σ2[i]? = (wipe σ vs)[i]?) : wipe σ2 vs = wipe (wipe σ vs) vs ∧ wipe (wipe σ vs) vs = wipe σ vs := by
  have key : ∀ a b : L2.St, a.length = b.length → (∀ i, i ∉ vs → a[i]? = b[i]?) → wipe a vs = wipe b vs := fun a b e q => by
    apply List.ext_getElem?
    intro i
    by_cases m : i ∈ vs
    · by_cases li : i < a.length
      · rw [wipe_at m li, wipe_at m (e ▸ li)]
      · rw [List.getElem?_eq_none (by rw [wipe_length]; omega), List.getElem?_eq_none (by rw [wipe_length]; omega)]
    · rw [wipe_out m, wipe_out m]
      exact q i m
  exact ⟨key _ _ (by rw [wipe_length]; exact hl) h, key _ _ (wipe_length _ _) fun i m => wipe_out m⟩
theorem FI.wipe {K G w ρ σ} (I : FI K G w ρ σ) : ∀ vs, FI K G w (mWipe ρ vs) (L2.wipe σ vs)
  | [] => I
  | _ :: vs => (I.wipe vs).wipe1
/-- a target's sim: besides, which slots it stores -/
def GtSim (K : PySem.W.Frag) (mg : Str → Option Value) (G : Wd) (g : TG) (f : PV → Rho → Store → Res Rho) (vs : List Nat) : Prop := ∀ w ρ σ x v Q, FI K G w ρ σ → RV K w.L w.hc x v → Good (f x ρ w.S) (fun ρ' S' => ∀ σ', S' = w.S → σ'.length = σ.length → (∀ i, i ∉ vs → σ'[i]? = σ[i]?) → FI K G w ρ' σ' → Q σ' w.H) (fun _ _ _ => False) → g v σ w.H Q
variable (X : Cx) (G : Wd) in
structure FGt (e : Expr) (g : TG) (f : PV → Rho → Store → Res Rho) (vs : List Nat) : Prop where
  pe : PG X e g
  sim : GtSim X.K X.mg G g f vs
def GtsSim (K : PySem.W.Frag) (mg : Str → Option Value) (G : Wd) (g : TGs) (f : List PV → Rho → Store → Res Rho) (vs : List Nat) : Prop := ∀ w ρ σ xs us Q, FI K G w ρ σ → RVs K w.L w.hc xs us → Good (f xs ρ w.S) (fun ρ' S' => ∀ σ', S' = w.S → σ'.length = σ.length → (∀ i, i ∉ vs → σ'[i]? = σ[i]?) → FI K G w ρ' σ' → Q σ' w.H) (fun _ _ _ => False) → g us σ w.H Q
variable (X : Cx) (G : Wd) in
structure FGts (e : List Expr) (g : TGs) (f : List PV → Rho → Store → Res Rho) (vs : List Nat) : Prop where
  pe : PGs X e g
  sim : GtsSim X.K X.mg G g f vs
theorem gt_name {X : Cx} {G : Wd} {i : Nat} {x : Str} {pos : Pos} {vs : List Nat} (h : PG X (.Name x pos) (gName i)) (hv : i ∈ vs := by decide) : FGt X G (.Name x pos) (gName i) (gNm i) vs := ⟨h, fun w ρ σ x v Q I r g =>
  g (σ.set i (some v)) rfl (List.length_set ..) (fun j hj => by rw [List.getElem?_set_ne fun e => hj (by rw [← e]; exact hv)]) (I.set r)⟩
theorem gts_nil {X : Cx} {G : Wd} {vs : List Nat} : FGts X G [] gNil gsNil vs := ⟨pgs_nil, fun w ρ σ xs us Q I r g => by
  cases xs with
  | nil => exact ⟨r, g σ rfl rfl (fun _ _ => rfl) I⟩
  | cons x xs => exact g.elim⟩
theorem gts_cons {X : Cx} {G : Wd} {vs : List Nat} {e es t u f g} (h1 : FGt X G e t f vs) (h2 : FGts X G es u g vs) (pe : PGs X (e :: es) (gCons t u)) : FGts X G (e :: es) (gCons t u) (gsCons f g) vs := ⟨pe, fun w ρ σ xs us Q I r q => by
  cases xs with
  | nil => exact q.elim
  | cons x xs =>
    obtain ⟨v, rs, rfl, r1, r2⟩ := r
    refine ⟨v, rs, rfl, h1.sim w ρ σ x v _ I r1 (Good.imp (Good.bind1 q) (fun ρ1 S1 q1 => ?_) fun _ _ _ h => h)⟩
    intro σ1 e1 l1 f1 I1
    subst e1
    exact h2.sim w ρ1 σ1 xs rs Q I1 r2 (Good.imp q1 (fun ρ2 S2 q2 σ2 e2 l2 f2 I2 => q2 σ2 e2 (l2.trans l1) (fun i hi => (f2 i hi).trans (f1 i hi)) I2) fun _ _ _ h => h)⟩
theorem gt_tup {X : Cx} {G : Wd} {vs : List Nat} {es k t pos f} {n : Nat} (h : FGts X G es t f vs) (pe : PG X (.Tuple es k pos) (L2.gTup X.K n t)) : FGt X G (.Tuple es k pos) (L2.gTup X.K n t) (gTupM n f) vs := ⟨pe, fun w ρ σ x v Q I r q => by
  cases x <;> first | exact q.elim | skip
  rename_i xs
  obtain ⟨a, us, rfl, r1, r2⟩ := r
  obtain ⟨hn, q⟩ := good_if q
  exact ⟨a, us, rfl, hc_sqT r1, r2.len.trans hn, h.sim w ρ σ xs us Q I r2 q⟩⟩
variable (X : Cx) (G : Wd) (E : EK) in
structure FTs (es : List Expr) (te : TT) (f : Rho → Store → Res Bool) : Prop where
  pe : PTs X es te
  sim : TSim X.K X.mg G E te f
theorem fts_nil {X : Cx} {G : Wd} {E : EK} : FTs X G E [] tYes mTrue := ⟨pts_nil, fun w ρ σ Q I h => h w rfl (WStep.refl I.ok.sub) I.ok⟩
theorem fts_one {X : Cx} {G : Wd} {E : EK} {c t f} (h : FT X G E c t f) : FTs X G E [c] t f := ⟨pts_one h.pe, h.sim⟩
theorem sim_lc {K : PySem.W.Frag} {mg : Str → Option Value} {G : Wd} {E : EK} {wi g tt te vs fi fg ft fe} (hi : ISim K mg G E wi fi) (hg : GtSim K mg G g fg vs) (ht : TSim K mg G (fun _ => E0) tt ft) (he : ESim K mg G (fun _ => E0) te fe) :
    NSim K mg G E (tLc wi g tt te vs) (mLc fi fg ft fe vs) := fun w ρ σ Q I q => by
  refine hi w ρ σ _ I (Good.imp (Good.bind1 q) (fun xs S1 h1 => ?_) fun _ _ _ h => h)
  intro w1 J e1 s1 k1 it D hD
  subst e1
  obtain ⟨hsz, h1⟩ := good_if h1
  have k2 := laid_ok (o := .lst []) k1 hD
  have s2 := laid_step (o := .lst []) k1 hD
  have hDL : D ∉ w1.L := k1.ninL hD
  have hDw : w.H D = none := by
    cases e : w.H D with
    | none => rfl
    | some o =>
      by_cases z : D ∈ w.L
      · exact absurd (s1.pre.subset z) hDL
      · rw [s1.keep D o e z] at hD; cases hD
  have I1 := I.step s1 k1
  refine ⟨fun i m H => ∃ w2 pacc acc, w2.H = H ∧ WStep w w2 ∧ WOk K w2 ∧ VStep w1 w2 ∧ D ∈ w2.O ∧ D ∉ w2.L ∧ w2.H D = some (.lst acc) ∧ RVs K w2.L w2.hc pacc acc ∧ acc.length ≤ i ∧ m + i = xs.length ∧ FI K G w2 (mWipe ρ vs) (wipe σ vs) ∧
    Good (mLcGo fg ft fe (mWipe ρ vs) (xs.drop i) w2.S) (fun ys S' => PostN K w Q (.lst (pacc ++ ys)) S') (ExP K mg (E σ) w),
    ⟨xs.length, w1.laid D (.lst []), [], [], rfl, s1.tr s2 I.ok k1, k2, s2.v k1.sub, List.mem_cons_self, hDL, by show upd w1.H D _ D = _; rw [upd_same], rfl, Nat.le_refl _, rfl, (I1.step s2 k2).wipe vs, Good.bind1 h1⟩, ?_⟩
  rintro i m H2 ⟨w2, pacc, acc, rfl, s2', k2', v2, hO, hL, hD2, racc, hlen, em, I2, h2⟩
  by_cases hx : i < xs.length
  · have ed : xs.drop i = xs[i] :: xs.drop (i + 1) := (List.getElem_cons_drop hx).symm
    rw [ed] at h2
    obtain ⟨go, yl⟩ := (it i w2 v2 k2').1 xs[i] (List.getElem?_eq_getElem hx)
    refine .inr ⟨go, fun H' => ∃ w3 pacc acc, w3.H = H' ∧ WStep w w3 ∧ WOk K w3 ∧ VStep w1 w3 ∧ D ∈ w3.O ∧ D ∉ w3.L ∧ w3.H D = some (.lst acc) ∧ RVs K w3.L w3.hc pacc acc ∧ acc.length ≤ i + 1 ∧ FI K G w3 (mWipe ρ vs) (wipe σ vs) ∧
      Good (mLcGo fg ft fe (mWipe ρ vs) (xs.drop (i + 1)) w3.S) (fun ys S' => PostN K w Q (.lst (pacc ++ ys)) S') (ExP K mg (E σ) w), ?_, fun v H' hy => ?_⟩
    · rintro H' ⟨w3, p3, a3, c1, c2, c3, c4, c5, c6, c7, c8, c9, c10, c11⟩
      exact ⟨m - 1, by omega, w3, p3, a3, c1, c2, c3, c4, c5, c6, c7, c8, c9, by omega, c10, c11⟩
    · obtain ⟨w3, rfl, es, s3, k3, r3⟩ := yl v H' hy
      rw [← es] at h2
      have I3 := I2.step s3 k3
      have h3 := Good.nox (ex' := fun _ _ _ => False) (Good.bind1 h2)
      refine hg w3 _ _ xs[i] v _ I3 r3 (Good.imp h3 (fun ρ4 S4 h4 => ?_) fun _ _ _ h => h)
      intro σ4 e4 l4 f4 I4
      subst e4
      have wp := wipe_wipe σ σ4 vs (by rw [l4, wipe_length]) f4
      refine ⟨wp.1.trans wp.2, ?_⟩
      have h4' := Good.nox (ex' := ExP K mg E0 w3) (Good.bind1 h4)
      refine ht w3 ρ4 σ4 _ I4 (Good.imp h4' (fun b S5 h5 => ?_) fun _ _ _ h => h)
      intro w5 e5 s5 k5
      subst e5
      have s25 := s3.tr s5 k2' k3
      cases b with
      | false =>
        rw [if_neg Bool.false_ne_true] at h5 ⊢
        have hD5 : w5.H D = some (.lst acc) := s25.keep D _ hD2 hL
        refine ⟨w5, pacc, acc, rfl, s2'.tr s25 I.ok k2', k5, v2.trans (s25.v k2'.sub), s25.omono D hO, fun z => ?_, hD5, racc.mono s25.pre (s25.ext k2'.sub), by omega, I2.step s25 k5, h5⟩
        rcases s25.lset D z with y | y
        · exact hL y
        · rw [hD2] at y; cases y
      | true =>
        rw [if_pos rfl] at h5 ⊢
        have h5' := Good.nox (ex' := ExP K mg E0 w5) (Good.bind1 h5)
        refine he w5 ρ4 σ4 _ (I4.step s5 k5) (Good.imp h5' (fun y S6 h6 => ?_) fun _ _ _ h => h)
        intro w6 u e6 s6 k6 r6
        subst e6
        have s26 := s25.tr s6 k2' k5
        have hD6 : w6.H D = some (.lst acc) := s26.keep D _ hD2 hL
        have hL6 : D ∉ w6.L := fun z => by
          rcases s26.lset D z with y | y
          · exact hL y
          · rw [hD2] at y; cases y
        have hO6 := s26.omono D hO
        have v7 : VStep w6 (w6.wr D (.lst (acc ++ [u]))) := wr_v hO6
        have k7 := wr_ok (ho := .lst (acc ++ [u])) k6 hO6 hL6
        have I6 := I2.step s26 k6
        have hGD : G.H D = none := by
          cases e : G.H D with
          | none => rfl
          | some o =>
            by_cases z : D ∈ G.L
            · exact absurd ((I.stp.pre.trans s1.pre).subset z) hDL
            · rw [I.stp.keep D o e z] at hDw; cases hDw
        refine ⟨acc, hD6, Nat.lt_of_le_of_lt hlen (Nat.lt_of_lt_of_le hx (sizeM_le hsz)), w6.wr D (.lst (acc ++ [u])), pacc ++ [y], acc ++ [u], rfl, wr_step (s2'.tr s26 I.ok k2') hDw, k7, (v2.trans (s26.v k2'.sub)).trans v7, hO6, hL6, by show upd w6.H D _ D = _; rw [upd_same], ?_, by simp; omega, ?_, ?_⟩
        · rw [wr_hc hO6]
          exact RVs.append (racc.mono s26.pre (s26.ext k2'.sub)) (RVs.one r6)
        · refine ⟨I6.gok, k7, wr_step I6.stp hGD, I6.len, fun j x e => ?_, fun j o e => ?_, I6.dis, fun j c fs e => ?_⟩
          · rw [wr_hc hO6]; exact I6.val j x e
          · rw [wr_hc hO6]
            obtain ⟨p, a, b, c, d, r⟩ := I6.own j o e
            have np : p ≠ D := fun z => by
              obtain ⟨p', a', b', _⟩ := (I1.wipe vs).own j o e
              rw [a'] at a
              cases a
              rw [z] at b'
              exact k1.nin hD b'
            exact ⟨p, a, b, c, d, by show SOk K w6.L w6.hc (upd w6.H D _ p) o; rw [upd_ne np]; exact r⟩
          · rw [wr_hc hO6]; exact I6.pin j c fs e
        · refine Good.imp (Good.bind1 h6) (fun ys S7 h7 => ?_) fun _ _ _ h => h
          rw [List.append_assoc]
          exact h7
  · refine .inl ⟨(it i w2 v2 k2').2 (by omega), ?_⟩
    rw [List.drop_eq_nil_of_le (by omega)] at h2
    have h2 : PostN K w Q (.lst (pacc ++ [])) w2.S := h2
    rw [List.append_nil] at h2
    exact h2 w2 D rfl s2' k2' hDw hO hL ⟨acc, hD2, racc⟩
theorem fn_lc {X : Cx} {G : Wd} {E : EK} {elt tg iter : Expr} {ifs : List Expr} {scope : Scope} {pos : Pos} {wi g tt te fi fg ft fe} (own : List (Str × Nat)) (hc : X.calm = true) (hN : X.N.Nodup) (ok : BlkOk X.N X.env.scope scope own) (hi : FIt X G E tg iter wi fi)
    (hg : ∀ (s : Shared) (H : Hp) (C : Addr) (cl : List (Str × Addr)) (fp : List Addr), FGt (X.blk s H scope (compEnvC scope cl C X.env) fp) G tg g fg (own.map (·.2)))
    (ht : ∀ (s : Shared) (H : Hp) (C : Addr) (cl : List (Str × Addr)) (fp : List Addr), FTs (X.blk s H scope (compEnvC scope cl C X.env) fp) G (fun _ => E0) ifs tt ft)
    (he : ∀ (s : Shared) (H : Hp) (C : Addr) (cl : List (Str × Addr)) (fp : List Addr), FE (X.blk s H scope (compEnvC scope cl C X.env) fp) G (fun _ => E0) elt te fe) (hs : ∀ x, foldedSetIterable iter X.env x = pure x := by intro _; rfl) :
    FN X G E (.ListComp elt [⟨tg, iter, ifs, 0⟩] scope pos) (tLc wi g tt te (own.map (·.2))) (mLc fi fg ft fe (own.map (·.2))) :=
  ⟨pe_lc hc hN hi.pe ok (fun s H C cl fp => (hg s H C cl fp).pe) (fun s H C cl fp => (ht s H C cl fp).pe) (fun s H C cl fp => (he s H C cl fp).pe) hs,
   sim_lc hi.sim (hg X.s_0 X.H_0 0 [] []).sim (ht X.s_0 X.H_0 0 [] []).sim (he X.s_0 X.H_0 0 [] []).sim⟩
/-- y = [..] : the statement's own derivation, with what the list is worth -/
structure FLcS (X : Cx) (G : Wd) (E : EK) (st : Stmt) (i : Nat) (te : TE) (f : Rho → Store → Res SO) : Prop where
  pe : PS X st (tAsg te (gName i))
  sim : NSim X.K X.mg G E te f
theorem fs_lc {X : Cx} {G : Wd} {E : EK} {elt tg iter : Expr} {ifs : List Expr} {scope : Scope} {pos spos py : Pos} {y : Str} {wi g tt te fi fg ft fe} (i : Nat) (own : List (Str × Nat)) (hc : X.calm = true) (hN : X.N.Nodup) (hy : X.N[i]? = some y) (hyl : X.env.scope.names.lookup y = some .local)
    (hsw : swapsWith (.ListComp elt [⟨tg, iter, ifs, 0⟩] scope pos) (some (.Name y py)) spos.line X.env = pure true) (ok : BlkOk X.N X.env.scope scope own) (hi : FIt X G E tg iter wi fi)
    (hg : ∀ (s : Shared) (H : Hp) (C : Addr) (cl : List (Str × Addr)) (fp : List Addr), FGt (X.blk s H scope (compEnvC scope cl C X.env) fp) G tg g fg (own.map (·.2)))
    (ht : ∀ (s : Shared) (H : Hp) (C : Addr) (cl : List (Str × Addr)) (fp : List Addr), FTs (X.blk s H scope (compEnvC scope cl C X.env) fp) G (fun _ => E0) ifs tt ft)
    (he : ∀ (s : Shared) (H : Hp) (C : Addr) (cl : List (Str × Addr)) (fp : List Addr), FE (X.blk s H scope (compEnvC scope cl C X.env) fp) G (fun _ => E0) elt te fe) (hs : ∀ x, foldedSetIterable iter X.env x = pure x := by intro _; rfl) :
    FLcS X G E (.Assign [.Name y py] (.ListComp elt [⟨tg, iter, ifs, 0⟩] scope pos) spos) i (tLc wi g tt te (own.map (·.2))) (mLc fi fg ft fe (own.map (·.2))) :=
  ⟨ps_setLc hc hN hy hyl hsw hi.pe ok (fun s H C cl fp => (hg s H C cl fp).pe) (fun s H C cl fp => (ht s H C cl fp).pe) (fun s H C cl fp => (he s H C cl fp).pe) hs,
   sim_lc hi.sim (hg X.s_0 X.H_0 0 [] []).sim (ht X.s_0 X.H_0 0 [] []).sim (he X.s_0 X.H_0 0 [] []).sim⟩
theorem FLcS.own {X G E st i te f} (h : FLcS X G E st i te f) : FS X G E st (tAsg te (gName i)) (mSetOwn i f) := ⟨h.pe, sim_setOwn h.sim⟩
theorem FLcS.val {X G E st i te f} (h : FLcS X G E st i te f) : FS X G E st (tAsg te (gName i)) (mSet i (mFrz f)) := ⟨h.pe, sim_set (sim_frz h.sim)⟩
end Mir
set_option maxHeartbeats 4000000
namespace Mir
open PySem PySem.Spec PyProof.Rows L2
def pow64 : Int := 18446744073709551616
def small64 (i : Int) : Bool := decide (-pow64 < i) && decide (i < pow64)
theorem small64_of {i : Int} (h : small64 i = true) : -(2 ^ 64) < i ∧ i < 2 ^ 64 := by
  unfold small64 pow64 at h
  simp only [Bool.and_eq_true, decide_eq_true_eq] at h
  omega
def gAdd : PV → PV → Store → Res PV
  | .int i, .int j, S => .ok (.int (i + j)) S
  | .str a, .str b, S => if a.length + b.length ≤ sizeM then .ok (.str (a ++ b)) S else .bad
  | .tup xs, .tup ys, S => if xs.length + ys.length ≤ sizeM then .ok (.tup (xs ++ ys)) S else .bad
  | _, _, _ => .bad
def gSub : PV → PV → Store → Res PV
  | .int i, .int j, S => .ok (.int (i - j)) S
  | _, _, _ => .bad
def gMul : PV → PV → Store → Res PV
  | .int i, .int j, S => if (small64 i || small64 j) = true then .ok (.int (i * j)) S else .bad
  | _, _, _ => .bad
def gFdiv : PV → PV → Store → Res PV
  | .int i, .int j, S => if (decide (0 < j) && decide (j < 1073741824)) = true then .ok (.int (i / j)) S else .bad
  | _, _, _ => .bad
def gMod : PV → PV → Store → Res PV
  | .int i, .int j, S => if 0 < j then .ok (.int (i % j)) S else .bad
  | _, _, _ => .bad
def cpow (i j : Int) : Bool := decide (0 ≤ j) && decide (j ≤ 1000) && small64 i
def gPow : PV → PV → Store → Res PV
  | .int i, .int j, S => if cpow i j = true then .ok (.int (i ^ j.toNat)) S else .bad
  | _, _, _ => .bad
def gLt : PV → PV → Store → Res PV
  | .int i, .int j, S => .ok (.bl (decide (i < j))) S
  | _, _, _ => .bad
def gLe : PV → PV → Store → Res PV
  | .int i, .int j, S => .ok (.bl (decide (i ≤ j))) S
  | _, _, _ => .bad
def gGt : PV → PV → Store → Res PV
  | .int i, .int j, S => .ok (.bl (decide (j < i))) S
  | _, _, _ => .bad
def gGe : PV → PV → Store → Res PV
  | .int i, .int j, S => .ok (.bl (decide (j ≤ i))) S
  | _, _, _ => .bad
def toV : PV → Option V
  | .non => some .non
  | .bl b => some (.bl b)
  | .int i => some (.int i)
  | .str x => some (.str x)
  | _ => none
/-- == of scalars -/
def gEq (neg : Bool) (x y : PV) (S : Store) : Res PV := match toV x, toV y with
  | some v, some u => if scal v u = true then .ok (.bl (if neg then !decide (v = u) else decide (v = u))) S else .bad
  | _, _ => .bad
def items : PV → Option (List PV)
  | .tup xs => some xs
  | .lst xs => some xs
  | .cl xs => some xs
  | _ => none
def gNeg : PV → Store → Res PV
  | .int i, S => .ok (.int (-i)) S
  | _, _ => .bad
/-- x[k] -/
def gIx : PV → PV → Store → Res PV
  | .tup xs, .int k, S => match atI xs k with | some y => .ok y S | none => .bad
  | .pt xs, .int k, S => match atI xs k with | some y => .ok y S | none => .bad
  | .lst xs, .int k, S => match atI xs k with | some y => .ok y S | none => .bad
  | .cl xs, .int k, S => match atI xs k with | some y => .ok y S | none => .bad
  | .obj n, .int k, S => match S[n]? with
    | some (.lst xs) => match atI xs k with | some y => .ok y S | none => .bad
    | _ => .bad
  | .str z, .int k, S => if z.length ≤ sizeM then (match atI z.cps.toList k with | some c => .ok (.str ⟨#[c]⟩) S | none => .bad) else .bad
  | _, _, _ => .bad
def cutP (xs : List PV) (lo hi : Option Int) : List PV := (xs.drop (HT.sIx xs.length 0 lo)).take (HT.sIx xs.length xs.length hi - HT.sIx xs.length 0 lo)
/-- t[i:j] -/
def gSl : PV → Option Int → Option Int → Store → Res PV
  | .tup xs, i, j, S => .ok (.tup (cutP xs i j)) S
  | .pt xs, i, j, S => .ok (.tup (cutP xs i j)) S
  | .str z, i, j, S => if z.length ≤ sizeM then .ok (.str (cutS z i j)) S else .bad
  | .lst xs, i, j, S => .ok (.lst (cutP xs i j)) S
  | _, _, _, _ => .bad
def gLen : List PV → Store → Res PV
  | [.tup xs], S => .ok (.int xs.length) S
  | [.pt xs], S => .ok (.int xs.length) S
  | [.lst xs], S => .ok (.int xs.length) S
  | [.cl xs], S => .ok (.int xs.length) S
  | [.str z], S => if z.length ≤ sizeM then .ok (.int z.length) S else .bad
  | [.obj n], S => match S[n]? with
    | some (.lst xs) => .ok (.int xs.length) S
    | _ => .bad
  | _, _ => .bad
def gInt : List PV → Store → Res PV
  | [.int i], S => .ok (.int i) S
  | [.bl b], S => .ok (.int (if b then 1 else 0)) S
  | _, _ => .bad
def gAbs : List PV → Store → Res PV
  | [.int i], S => .ok (.int (if i < 0 then -i else i)) S
  | _, _ => .bad
def gTuple : List PV → Store → Res PV
  | [.tup xs], S => .ok (.tup xs) S
  | [.pt xs], S => .ok (.pt xs) S
  | [.lst xs], S => .ok (.tup xs) S
  | [.cl xs], S => .ok (.tup xs) S
  | _, _ => .bad
def gList : List PV → Store → Res SO
  | [.tup xs], S => .ok (.lst xs) S
  | [.pt xs], S => .ok (.lst xs) S
  | [.lst xs], S => .ok (.lst xs) S
  | [.cl xs], S => .ok (.lst xs) S
  | _, _ => .bad
def toBl : PV → Option Bool
  | .bl b => some b
  | _ => none
def toI : PV → Option Int
  | .int b => some b
  | _ => none
def lexGe : List Int → List Int → Bool
  | _, [] => true
  | [], _ :: _ => false
  | a :: as, b :: bs => if a = b then lexGe as bs else decide (b ≤ a)
/-- a >= b of ints, of tuples of ints -/
def gGeA : PV → PV → Store → Res PV
  | .tup xs, .tup ys, S => (match xs.mapM toI, ys.mapM toI with
    | some ns, some ms => .ok (.bl (lexGe ns ms)) S
    | _, _ => .bad)
  | x, y, S => gGe x y S
def gAll : List PV → Store → Res PV
  | [.lst xs], S => match xs.mapM toBl with | some bs => .ok (.bl (bs.all id)) S | none => .bad
  | _, _ => .bad
def gAny : List PV → Store → Res PV
  | [.lst xs], S => match xs.mapM toBl with | some bs => .ok (.bl (bs.any id)) S | none => .bad
  | _, _ => .bad
def gSumL : List PV → Store → Res PV
  | [.lst xs], S => match xs.mapM toI with | some bs => .ok (.int bs.sum) S | none => .bad
  | _, _ => .bad
def tyP : PV → Option String
  | .non => some "NoneType"
  | .bl _ => some "bool"
  | .int _ => some "int"
  | .str _ => some "str"
  | .tup _ => some "tuple"
  | .lst _ => some "list"
  | .cl _ => some "list"
  | .dk _ _ => some "dict"
  | .pt _ => some "tuple"
  | _ => none
def gIsi (T : String) (x : PV) (S : Store) : Res PV := match tyP x with
  | some a => match kitB a T with
    | some b => .ok (.bl b) S
    | none => .bad
  | none => .bad
section
variable {K : PySem.W.Frag} {mg : Str → Option Value} {E : XK} {w : Wd} {Q : VK}
theorem post_self {x : PV} {v : V} {S : Store} (k : WOk K w) (h : PostV K w Q x S) (hS : w.S = S) (r : RV K w.L w.hc x v) : Q v w.H := h w v hS (WStep.refl k.sub) k r
/-- an own def of cases -/
theorem r2_add : R2Sim K mg E (fun x y H Q => rI0 (fun i j => .int (i + j)) x y H Q ∨ ((∃ i j, x = V.str i ∧ y = .str j ∧ i.length + j.length ≤ sizeLine ∧ Q (.str (i ++ j)) H) ∨ rCatA K x y H Q)) gAdd := fun w x y v u Q k rx ry g => by
  cases x <;> cases y <;> first | exact g.elim | skip
  · exact .inl ⟨_, _, rx, ry, post_self k g rfl rfl⟩
  · obtain ⟨c, g⟩ := good_if g
    exact .inr (.inl ⟨_, _, rx, ry, sizeM_le c, post_self k g rfl rfl⟩)
  · obtain ⟨c, g⟩ := good_if g
    obtain ⟨a, vs, rfl, r1, r2⟩ := rx
    obtain ⟨b, us, rfl, r3, r4⟩ := ry
    rename_i xs ys _
    have g : PostV K w Q (.tup (xs ++ ys)) w.S := g
    refine .inr (.inr ⟨a, b, vs, us, rfl, rfl, hc_sqT r1, hc_sqT r3, by rw [r2.len, r4.len]; exact sizeM_le c, fun e => ?_, fun _ e => ?_, fun _ _ => post_tup k rfl (r2.append r4) g⟩)
    · have : xs = [] := by
        have := r2.len
        rw [e] at this
        exact List.length_eq_zero_iff.mp this.symm
      subst this
      exact post_self k g rfl ⟨b, us, rfl, r3, r4⟩
    · have : ys = [] := by
        have := r4.len
        rw [e] at this
        exact List.length_eq_zero_iff.mp this.symm
      subst this
      rw [List.append_nil] at g
      exact post_self k g rfl ⟨a, vs, rfl, r1, r2⟩
theorem RVs.flat {L Hc} {xs : List PV} {vs : List V} (r : RVs K L Hc xs vs) : ∀ n : Nat, RVs K L Hc (List.replicate n xs).flatten (List.replicate n vs).flatten
  | 0 => rfl
  | n + 1 => by
    rw [List.replicate_succ, List.replicate_succ, List.flatten_cons, List.flatten_cons]
    exact r.append (RVs.flat r n)
theorem r2_sub : R2Sim K mg E (rI0 fun i j => .int (i - j)) gSub := fun w x y v u Q k rx ry g => by
  cases x <;> cases y <;> first | exact g.elim | exact ⟨_, _, rx, ry, post_self k g rfl rfl⟩
theorem r2_mul : R2Sim K mg E (rI CMul fun i j => .int (i * j)) gMul := fun w x y v u Q k rx ry g => by
  cases x <;> cases y <;> first | exact g.elim | skip
  obtain ⟨c, g⟩ := good_if g
  refine ⟨_, _, rx, ry, ?_, post_self k g rfl rfl⟩
  rcases Bool.or_eq_true_iff.mp c with c | c
  · exact .inl (small64_of c)
  · exact .inr (small64_of c)
theorem r2_fdiv : R2Sim K mg E (rI CDiv fun i j => .int (i / j)) gFdiv := fun w x y v u Q k rx ry g => by
  cases x <;> cases y <;> first | exact g.elim | skip
  obtain ⟨c, g⟩ := good_if g
  simp only [Bool.and_eq_true, decide_eq_true_eq] at c
  exact ⟨_, _, rx, ry, c, post_self k g rfl rfl⟩
theorem r2_mod : R2Sim K mg E (rI (fun _ j => 0 < j) fun i j => .int (i % j)) gMod := fun w x y v u Q k rx ry g => by
  cases x <;> cases y <;> first | exact g.elim | skip
  obtain ⟨c, g⟩ := good_if g
  exact ⟨_, _, rx, ry, c, post_self k g rfl rfl⟩
theorem cpow_of {i j : Int} (h : cpow i j = true) : CPow i j := by
  unfold cpow at h
  simp only [Bool.and_eq_true, decide_eq_true_eq] at h
  have := small64_of h.2
  exact ⟨h.1.1, by omega, by omega⟩
theorem r2_pow : R2Sim K mg E (rI CPow fun i j => .int (i ^ j.toNat)) gPow := fun w x y v u Q k rx ry g => by
  cases x <;> cases y <;> first | exact g.elim | skip
  obtain ⟨c, g⟩ := good_if g
  exact ⟨_, _, rx, ry, cpow_of c, post_self k g rfl rfl⟩
theorem r2_lt : R2Sim K mg E (rI0 fun i j => .bl (decide (i < j))) gLt := fun w x y v u Q k rx ry g => by
  cases x <;> cases y <;> first | exact g.elim | exact ⟨_, _, rx, ry, post_self k g rfl rfl⟩
theorem r2_le : R2Sim K mg E (rI0 fun i j => .bl (decide (i ≤ j))) gLe := fun w x y v u Q k rx ry g => by
  cases x <;> cases y <;> first | exact g.elim | exact ⟨_, _, rx, ry, post_self k g rfl rfl⟩
theorem r2_gt : R2Sim K mg E (rI0 fun i j => .bl (decide (j < i))) gGt := fun w x y v u Q k rx ry g => by
  cases x <;> cases y <;> first | exact g.elim | exact ⟨_, _, rx, ry, post_self k g rfl rfl⟩
theorem r2_ge : R2Sim K mg E (rI0 fun i j => .bl (decide (j ≤ i))) gGe := fun w x y v u Q k rx ry g => by
  cases x <;> cases y <;> first | exact g.elim | exact ⟨_, _, rx, ry, post_self k g rfl rfl⟩
theorem toV_rv {L Hc} {x : PV} {u v : V} (h : toV x = some u) (r : RV K L Hc x v) : v = u := by
  cases x <;> first | (cases h; exact r) | cases h
theorem toVs_rv {L Hc} : ∀ {xs : List PV} {us vs : List V}, xs.mapM toV = some us → RVs K L Hc xs vs → vs = us
  | [], us, vs, h, r => by
    simp at h
    subst h
    exact r
  | x :: xs, us, vs, h, r => by
    obtain ⟨v, r', rfl, r1, r2⟩ := r
    rw [List.mapM_cons] at h
    cases e : toV x with
    | none => rw [e] at h; cases h
    | some a =>
      rw [e] at h
      cases e2 : xs.mapM toV with
      | none => rw [e2] at h; cases h
      | some b =>
        rw [e2] at h
        cases h
        rw [toV_rv e r1, toVs_rv e2 r2]
theorem toV_flat {x : PV} {u : V} (h : toV x = some u) : flatV u = true := by
  cases x <;> cases h <;> rfl
theorem toVs_flat : ∀ {xs : List PV} {us : List V}, xs.mapM toV = some us → us.all flatV = true
  | [], us, h => by
    simp at h
    subst h
    rfl
  | x :: xs, us, h => by
    rw [List.mapM_cons] at h
    cases e : toV x with
    | none => rw [e] at h; cases h
    | some a =>
      rw [e] at h
      cases e2 : xs.mapM toV with
      | none => rw [e2] at h; cases h
      | some b =>
        rw [e2] at h
        cases h
        rw [List.all_cons, toV_flat e, toVs_flat e2]
        rfl
theorem r2_eq : R2Sim K mg E rEq (gEq false) := fun w x y v u Q k rx ry g => by
  unfold gEq at g
  split at g
  · rename_i a b ea eb
    obtain ⟨c, g⟩ := good_if g
    rw [toV_rv ea rx, toV_rv eb ry]
    exact ⟨c, post_self k g rfl rfl⟩
  · exact g.elim
theorem r2_ne : R2Sim K mg E rNe (gEq true) := fun w x y v u Q k rx ry g => by
  unfold gEq at g
  split at g
  · rename_i a b ea eb
    obtain ⟨c, g⟩ := good_if g
    rw [toV_rv ea rx, toV_rv eb ry]
    exact ⟨c, post_self k g rfl rfl⟩
  · exact g.elim
theorem r1_neg : R1Sim K mg E (rU fun i => .int (-i)) gNeg := fun w x v Q k rx g => by
  cases x <;> first | exact g.elim | exact ⟨_, rx, post_self k g rfl rfl⟩
theorem at_rv {L Hc} {xs : List PV} {vs : List V} {i : Int} {y : PV} (r : RVs K L Hc xs vs) (h : atI xs i = some y) : ∃ v, atI vs i = some v ∧ RV K L Hc y v := by
  unfold atI at h ⊢
  rw [r.len]
  cases e : ixN xs.length i with
  | none => rw [e] at h; cases h
  | some j =>
    rw [e] at h
    exact r.get h
theorem st_at (k : WOk K w) {n : Nat} {v : V} {xs : List PV} (r : RV K w.L w.hc (.obj n) v) (h : w.S[n]? = some (.lst xs)) : ∃ a vs, v = .ref a ∧ w.L[n]? = some a ∧ w.H a = some (.lst vs) ∧ RVs K w.L w.hc xs vs := by
  obtain ⟨a, rfl, h2⟩ := r
  obtain ⟨vs, h3, h4⟩ := k.st n _ a h h2
  exact ⟨a, vs, rfl, h2, h3, h4⟩
theorem r2_ix : R2Sim K mg E (rIx K) gIx := fun w x y v u Q k rx ry g => by
  have fin : ∀ {o : Option PV}, Good (match o with | some y => Res.ok y w.S | none => Res.bad) (PostV K w Q) (ExP K mg E w) → ∃ y, o = some y ∧ PostV K w Q y w.S := fun {o} h => by
    cases o with
    | none => exact h.elim
    | some y => exact ⟨y, rfl, h⟩
  cases y <;> first | (cases x <;> exact g.elim) | skip
  rename_i i
  cases x <;> first | exact g.elim | skip
  · obtain ⟨c, g⟩ := good_if g
    rename_i z _
    cases e : atI z.cps.toList i with
    | none => rw [e] at g; exact g.elim
    | some c' =>
      rw [e] at g
      exact .inr (.inr ⟨z, i, c', rx, ry, sizeM_le c, e, post_self k g rfl rfl⟩)
  · obtain ⟨y, e, g⟩ := fin g
    obtain ⟨a, vs, rfl, r1, r2⟩ := rx
    obtain ⟨t, e1, e2⟩ := at_rv r2 e
    exact .inr (.inl ⟨a, vs, i, t, rfl, ry, hc_sqT r1, e1, post_self k g rfl e2⟩)
  · obtain ⟨y, e, g⟩ := fin g
    obtain ⟨a, vs, rfl, r1, r2⟩ := rx
    obtain ⟨t, e1, e2⟩ := at_rv r2 e
    exact .inl ⟨a, vs, i, t, rfl, ry, .inl (.inl (hc_lst r1)), e1, post_self k g rfl e2⟩
  · obtain ⟨y, e, g⟩ := fin g
    obtain ⟨a, vs, rfl, r1, r2⟩ := rx
    obtain ⟨t, e1, e2⟩ := at_rv r2 e
    exact .inl ⟨a, vs, i, t, rfl, ry, hc_sqL r1, e1, post_self k g rfl e2⟩
  · rename_i n
    have g : Good (match w.S[n]? with | some (.lst xs) => (match atI xs i with | some y => Res.ok y w.S | none => Res.bad) | _ => Res.bad) (PostV K w Q) (ExP K mg E w) := g
    cases eS : w.S[n]? with
    | none => rw [eS] at g; exact g.elim
    | some o =>
      cases o with
      | lst xs =>
        rw [eS] at g
        obtain ⟨y, e, g⟩ := fin g
        obtain ⟨a, vs, rfl, _, r1, r2⟩ := st_at k rx eS
        obtain ⟨t, e1, e2⟩ := at_rv r2 e
        exact .inl ⟨a, vs, i, t, rfl, ry, .inl (.inl r1), e1, post_self k g rfl e2⟩
      | _ => rw [eS] at g; exact g.elim
  · obtain ⟨y, e, g⟩ := fin g
    obtain ⟨a, vs, rfl, r1, r2⟩ := rx
    obtain ⟨t, e1, e2⟩ := at_rv r2 e
    exact .inr (.inl ⟨a, vs, i, t, rfl, ry, hc_sqT (plT_sqT r1), e1, post_self k g rfl e2⟩)
theorem cut_rv {L Hc} {xs : List PV} {vs : List V} (r : RVs K L Hc xs vs) (i j : Option Int) : RVs K L Hc (cutP xs i j) (cutV vs i j) := by
  unfold cutP cutV
  rw [r.len]
  exact (r.drop _).take _
theorem rsl : RSl K mg E (fun x lo hi H Q => rSlA K x lo hi H Q ∨ (rSlS x lo hi H Q ∨ rSlL K x lo hi H Q)) gSl := fun w x v i j Q k rx g => by
  cases x <;> first | exact g.elim | skip
  · obtain ⟨c, g⟩ := good_if g
    exact .inr (.inl ⟨_, rx, sizeM_le c, post_self k g rfl rfl⟩)
  · obtain ⟨a, vs, rfl, r1, r2⟩ := rx
    rename_i xs
    have g : PostV K w Q (.tup (cutP xs i j)) w.S := g
    refine .inl ⟨a, vs, rfl, hc_sqT r1, fun h => ?_, fun _ => post_tup k rfl (cut_rv r2 i j) g⟩
    have e : cutP xs i j = xs := by
      unfold cutP
      rw [← r2.len, h.1, h.2, r2.len]
      simp
    rw [e] at g
    exact post_self k g rfl ⟨a, vs, rfl, r1, r2⟩
  · obtain ⟨a, vs, rfl, r1, r2⟩ := rx
    rename_i xs
    have g : PostV K w Q (.lst (cutP xs i j)) w.S := g
    refine .inr (.inr ⟨a, vs, rfl, .inl (.inl (hc_lst r1)), fun p hp => ?_⟩)
    exact g (w.put p (.lst (cutV vs i j))) (.ref p) rfl (put_step k hp) (put_ok k hp) ⟨p, _, rfl, put_at k hp, (cut_rv r2 i j).mono (List.prefix_refl _) (put_ext hp)⟩
  · obtain ⟨a, vs, rfl, r1, r2⟩ := rx
    rename_i xs
    have g : PostV K w Q (.tup (cutP xs i j)) w.S := g
    refine .inl ⟨a, vs, rfl, hc_sqT (plT_sqT r1), fun h => ?_, fun _ => post_tup k rfl (cut_rv r2 i j) g⟩
    have e : cutP xs i j = xs := by
      unfold cutP
      rw [← r2.len, h.1, h.2, r2.len]
      simp
    rw [e] at g
    exact post_self k g rfl ⟨a, vs, rfl, plT_sqT r1, r2⟩
theorem vs1 {L Hc} {x : PV} {vs : List V} (r : RVs K L Hc [x] vs) : ∃ v, vs = [v] ∧ RV K L Hc x v := by
  obtain ⟨v, t, rfl, h1, h2⟩ := r
  have h2 : t = [] := h2
  subst h2
  exact ⟨v, rfl, h1⟩
theorem ra_len : RASim K mg E (fun xs H Q => ∃ x n, xs = [x] ∧ LenV K x H n ∧ Q (.int n) H) gLen := fun w xs vs Q k r g => by
  match xs, g, r with
  | [.tup ys], g, r =>
    obtain ⟨v, rfl, a, us, rfl, r1, r2⟩ := vs1 r
    exact ⟨_, _, rfl, .inr ⟨us, hc_sqT r1, r2.len.symm⟩, post_self k g rfl rfl⟩
  | [.pt ys], g, r =>
    obtain ⟨v, rfl, a, us, rfl, r1, r2⟩ := vs1 r
    exact ⟨_, _, rfl, .inr ⟨us, hc_sqT (plT_sqT r1), r2.len.symm⟩, post_self k g rfl rfl⟩
  | [.lst ys], g, r =>
    obtain ⟨v, rfl, a, us, rfl, r1, r2⟩ := vs1 r
    exact ⟨_, _, rfl, .inl ⟨us, .inl (.inl (hc_lst r1)), r2.len.symm⟩, post_self k g rfl rfl⟩
  | [.cl ys], g, r =>
    obtain ⟨v, rfl, a, us, rfl, r1, r2⟩ := vs1 r
    exact ⟨_, _, rfl, .inl ⟨us, hc_sqL r1, r2.len.symm⟩, post_self k g rfl rfl⟩
  | [.str z], g, r =>
    obtain ⟨v, rfl, rfl⟩ := vs1 r
    obtain ⟨c, g⟩ := good_if g
    exact ⟨_, _, rfl, ⟨sizeM_le c, rfl⟩, post_self k g rfl rfl⟩
  | [.obj n], g, r =>
    obtain ⟨v, rfl, r1⟩ := vs1 r
    have g : Good (match w.S[n]? with | some (.lst xs) => Res.ok (.int xs.length) w.S | _ => Res.bad) (PostV K w Q) (ExP K mg E w) := g
    cases eS : w.S[n]? with
    | none => rw [eS] at g; exact g.elim
    | some o =>
      cases o with
      | lst ys =>
        rw [eS] at g
        obtain ⟨a, us, rfl, _, r2, r3⟩ := st_at k r1 eS
        exact ⟨_, _, rfl, .inl ⟨us, .inl (.inl r2), r3.len.symm⟩, post_self k g rfl rfl⟩
      | _ => rw [eS] at g; exact g.elim
theorem ra_int : RASim K mg E (fun xs H Q => (∃ i, xs = [V.int i] ∧ Q (.int i) H) ∨ ∃ k, xs = [V.bl k] ∧ Q (.int (if k then 1 else 0)) H) gInt := fun w xs vs Q k r g => by
  match xs, g, r with
  | [.int i], g, r =>
    obtain ⟨v, rfl, rfl⟩ := vs1 r
    exact .inl ⟨_, rfl, post_self k g rfl rfl⟩
  | [.bl i], g, r =>
    obtain ⟨v, rfl, rfl⟩ := vs1 r
    exact .inr ⟨_, rfl, post_self k g rfl rfl⟩
theorem ra_abs : RASim K mg E (fun xs H Q => ∃ i, xs = [V.int i] ∧ Q (.int (if i < 0 then -i else i)) H) gAbs := fun w xs vs Q k r g => by
  match xs, g, r with
  | [.int i], g, r =>
    obtain ⟨v, rfl, rfl⟩ := vs1 r
    exact ⟨_, rfl, post_self k g rfl rfl⟩
theorem ra_tuple : RASim K mg E (fun xs H Q => ∃ p ys, xs = [V.ref p] ∧ ((SqL K H p ys ∧ ∀ l, H l = none → Q (.ref l) (upd H l (.tup ys))) ∨ (SqT K H p ys ∧ Q (.ref p) H))) gTuple := fun w xs vs Q k r g => by
  match xs, g, r with
  | [.tup ys], g, r =>
    obtain ⟨v, rfl, a, us, rfl, r1, r2⟩ := vs1 r
    exact ⟨a, us, rfl, .inr ⟨hc_sqT r1, post_self k g rfl ⟨a, us, rfl, r1, r2⟩⟩⟩
  | [.pt ys], g, r =>
    obtain ⟨v, rfl, a, us, rfl, r1, r2⟩ := vs1 r
    exact ⟨a, us, rfl, .inr ⟨hc_sqT (plT_sqT r1), post_self k g rfl ⟨a, us, rfl, r1, r2⟩⟩⟩
  | [.lst ys], g, r =>
    obtain ⟨v, rfl, a, us, rfl, r1, r2⟩ := vs1 r
    exact ⟨a, us, rfl, .inl ⟨.inl (.inl (hc_lst r1)), post_tup k rfl r2 g⟩⟩
  | [.cl ys], g, r =>
    obtain ⟨v, rfl, a, us, rfl, r1, r2⟩ := vs1 r
    exact ⟨a, us, rfl, .inl ⟨hc_sqL r1, post_tup k rfl r2 g⟩⟩
theorem ra_list : RAN K mg E (fun xs H Q => ∃ p ys, xs = [V.ref p] ∧ (SqL K H p ys ∨ SqT K H p ys) ∧ ∀ l, H l = none → Q (.ref l) (upd H l (.lst ys))) gList := fun w xs vs Q k r g => by
  match xs, g, r with
  | [.tup ys], g, r =>
    obtain ⟨v, rfl, a, us, rfl, r1, r2⟩ := vs1 r
    exact ⟨a, us, rfl, .inr (hc_sqT r1), post_lst k rfl r2 g⟩
  | [.pt ys], g, r =>
    obtain ⟨v, rfl, a, us, rfl, r1, r2⟩ := vs1 r
    exact ⟨a, us, rfl, .inr (hc_sqT (plT_sqT r1)), post_lst k rfl r2 g⟩
  | [.lst ys], g, r =>
    obtain ⟨v, rfl, a, us, rfl, r1, r2⟩ := vs1 r
    exact ⟨a, us, rfl, .inl (.inl (.inl (hc_lst r1))), post_lst k rfl r2 g⟩
  | [.cl ys], g, r =>
    obtain ⟨v, rfl, a, us, rfl, r1, r2⟩ := vs1 r
    exact ⟨a, us, rfl, .inl (hc_sqL r1), post_lst k rfl r2 g⟩
theorem toBls_rv {L Hc} : ∀ {xs : List PV} {bs : List Bool} {vs : List V}, xs.mapM toBl = some bs → RVs K L Hc xs vs → vs = bs.map V.bl
  | [], us, vs, h, r => by
    simp at h
    subst h
    exact r
  | x :: xs, us, vs, h, r => by
    obtain ⟨v, r', rfl, r1, r2⟩ := r
    rw [List.mapM_cons] at h
    cases e : toBl x with
    | none => rw [e] at h; cases h
    | some a =>
      rw [e] at h
      cases e2 : xs.mapM toBl with
      | none => rw [e2] at h; cases h
      | some b =>
        rw [e2] at h
        cases h
        rw [toBls_rv e2 r2]
        cases x <;> cases e
        have r1 : v = .bl _ := r1
        rw [r1]
        rfl
theorem toIs_rv {L Hc} : ∀ {xs : List PV} {bs : List Int} {vs : List V}, xs.mapM toI = some bs → RVs K L Hc xs vs → vs = bs.map V.int
  | [], us, vs, h, r => by
    simp at h
    subst h
    exact r
  | x :: xs, us, vs, h, r => by
    obtain ⟨v, r', rfl, r1, r2⟩ := r
    rw [List.mapM_cons] at h
    cases e : toI x with
    | none => rw [e] at h; cases h
    | some a =>
      rw [e] at h
      cases e2 : xs.mapM toI with
      | none => rw [e2] at h; cases h
      | some b =>
        rw [e2] at h
        cases h
        rw [toIs_rv e2 r2]
        cases x <;> cases e
        have r1 : v = .int _ := r1
        rw [r1]
        rfl
theorem ra_all : RASim K mg E (rAll K) gAll := fun w xs vs Q k r g => by
  match xs, g, r with
  | [.lst ys], g, r =>
    obtain ⟨v, rfl, a, us, rfl, r1, r2⟩ := vs1 r
    have g : Good (match ys.mapM toBl with | some bs => Res.ok (.bl (bs.all id)) w.S | none => Res.bad) (PostV K w Q) (ExP K mg E w) := g
    cases e : ys.mapM toBl with
    | none => rw [e] at g; exact g.elim
    | some bs =>
      rw [e] at g
      exact ⟨a, bs, rfl, .inl (.inl (by rw [← toBls_rv e r2]; exact hc_lst r1)), post_self k g rfl rfl⟩
theorem ra_any : RASim K mg E (rAny K) gAny := fun w xs vs Q k r g => by
  match xs, g, r with
  | [.lst ys], g, r =>
    obtain ⟨v, rfl, a, us, rfl, r1, r2⟩ := vs1 r
    have g : Good (match ys.mapM toBl with | some bs => Res.ok (.bl (bs.any id)) w.S | none => Res.bad) (PostV K w Q) (ExP K mg E w) := g
    cases e : ys.mapM toBl with
    | none => rw [e] at g; exact g.elim
    | some bs =>
      rw [e] at g
      exact ⟨a, bs, rfl, .inl (.inl (by rw [← toBls_rv e r2]; exact hc_lst r1)), post_self k g rfl rfl⟩
theorem ra_sum : RASim K mg E (rSum K) gSumL := fun w xs vs Q k r g => by
  match xs, g, r with
  | [.lst ys], g, r =>
    obtain ⟨v, rfl, a, us, rfl, r1, r2⟩ := vs1 r
    have g : Good (match ys.mapM toI with | some bs => Res.ok (.int bs.sum) w.S | none => Res.bad) (PostV K w Q) (ExP K mg E w) := g
    cases e : ys.mapM toI with
    | none => rw [e] at g; exact g.elim
    | some bs =>
      rw [e] at g
      exact ⟨a, bs, rfl, .inl (.inl (by rw [← toIs_rv e r2]; exact hc_lst r1)), post_self k g rfl rfl⟩
/-- a value's type -/
theorem tyx_of {L : List Addr} {H Hc : Hp} (e : ∀ a o, Hc a = some o → H a = some o) {x : PV} {v : V} {a : String} (h : tyP x = some a) (r : RV K L Hc x v) : TyX K H v (.type a) := by
  cases x <;> cases h
  · have r : v = .non := r
    subst r; exact .base .non
  · have r : v = .bl _ := r
    subst r; exact .base (.bl _)
  · have r : v = .int _ := r
    subst r; exact .base (.int _)
  · have r : v = .str _ := r
    subst r; exact .base (.str _)
  · obtain ⟨p, vs, rfl, r1, r2⟩ := r
    rcases r1 with (r1 | ⟨o, r1⟩) | ⟨o, its, n, l, c, _⟩
    · exact .base (.tup (e _ _ r1))
    · exact .fTuple (e _ _ r1)
    · exact .kTuple l c
  · obtain ⟨p, vs, rfl, r1, r2⟩ := r
    exact .base (.lst (e _ _ r1))
  · obtain ⟨p, vs, rfl, r1, r2⟩ := r
    rcases r1 with (r1 | ⟨o, r1⟩) | ⟨o, its, n, l, c, _⟩
    · exact .base (.lst (e _ _ r1))
    · exact .base (.frz (e _ _ r1))
    · exact .kList l c
  · obtain ⟨p, vs, rfl, r1, r2⟩ := r
    exact .base (.dK (e _ _ r1))
  · obtain ⟨p, vs, rfl, r1, r2⟩ := r
    rcases plT_sqT r1 with (r1 | ⟨o, r1⟩) | ⟨o, its, n, l, c, _⟩
    · exact .base (.tup (e _ _ r1))
    · exact .fTuple (e _ _ r1)
    · exact .kTuple l c
end
section
variable {X : Cx} {G : Wd} {E : EK} {E1 : XK}
/-- isinstance(e, T), T a built-in type -/
def mIsi (T : String) (f : Rho → Store → Res PV) : Rho → Store → Res PV := fun ρ S => (f ρ S).bind fun x S1 => gIsi T x S1
theorem fe_isi {T : String} {Tn : Str} {p pT pos e te f} (hm : X.mg "isinstance" = none) (hT : X.mg Tn = none) (he : FE X G E e te f) (hg : Gl X "isinstance" := by rfl) (hgT : Gl X Tn := by rfl) (hb : bootBuiltins Tn = some (.type T) := by decide +kernel) (hn : Tn ≠ "__name__" := by decide) (hdb : (Tn == ("__debug__" : Str)) = false := by decide)
    (hs : starEach [e, .Name Tn pT] X.env = (false, eval e X.env) :: starEach [.Name Tn pT] X.env := by rfl) (hpl : (backTo pos (starEach [.Name Tn pT] X.env)).any (·.1) = false := by rfl) (hs2 : starEach [.Name Tn pT] X.env = (false, eval (.Name Tn pT) X.env) :: starEach [] X.env := by rfl) :
    FE X G E (.Call (.Name "isinstance" p) [e, .Name Tn pT] [] pos) (tCB (rIsi X.K) (tCons te (tCons (tC (.ty T)) tNil))) (mIsi T f) :=
  ⟨pe_callB call_isi hg hm (by decide +kernel) (pa_cons he.pe (pa_cons (pe_bltn hgT hT hb rfl hn hdb) pa_nil hs2) hs) (by decide) (by decide) hs hpl, fun w ρ σ Q I q => by
  refine he.sim w ρ σ _ I (Good.imp (Good.bind1 q) (fun x S1 h1 => ?_) fun _ _ _ h => h)
  intro w1 v e1 s1 k1 r1
  subst e1
  unfold gIsi at h1
  split at h1
  · rename_i a ea
    split at h1
    · rename_i b eb
      exact ⟨v, .ty T, .type a, .type T, b, rfl, .ty T, tyx_of (fun a o h => (cut_some h).2) ea r1, kit_ty eb, h1 w1 (.bl b) rfl s1 k1 rfl⟩
    · exact h1.elim
  · exact h1.elim⟩
theorem fs_append {i : Nat} {x : Str} {px pa pc pos e te f} (he : FE X G E e te f) (hx : PE X (.Name x px) (tVar i)) (pe : PS X (.Expr (.Call (.Attribute (.Name x px) "append" pa) [e] [] pc) pos) (tDrop (tBM X.K "list" rAppend (tVar i) (tCons te tNil)))) :
    FS X G E (.Expr (.Call (.Attribute (.Name x px) "append" pa) [e] [] pc) pos) (tDrop (tBM X.K "list" rAppend (tVar i) (tCons te tNil))) (mAppend i f) := ⟨pe, fun w ρ σ D I q => by
  unfold mAppend at q
  split at q
  · rename_i o hi
    obtain ⟨p, a, b, c, d, r⟩ := I.own i _ hi
    · obtain ⟨vs, r1, r2⟩ := r
      refine ⟨.ref p, a, .inl ⟨rfl, vs, .inl (.inl r1)⟩, he.sim w ρ σ _ I (Good.imp (Good.bind1 q) (fun y S1 h1 => ?_) fun _ _ _ h => h.step I.stp I.gok I.ok)⟩
      intro w1 v e1 s1 k1 rv
      obtain ⟨hsz, h1⟩ := good_if h1
      have I1 := I.step s1 k1
      have g1 : w1.H p = some (.lst vs) := s1.keep p _ r1 c
      have hO := s1.omono p b
      have hL : p ∉ w1.L := fun z => by
        rcases s1.lset p z with y | y
        · exact c y
        · rw [r1] at y; cases y
      refine ⟨p, vs, v, rfl, rfl, g1, by rw [r2.len]; exact sizeM_lt hsz, ?_⟩
      exact h1 (w1.wr p (.lst (vs ++ [v]))) σ e1 ((s1.v I.ok.sub).trans (wr_v hO)) (I1.wrOwn hi a hO hL d ⟨_, rfl, (r2.mono s1.pre (s1.ext I.ok.sub)).append (RVs.one rv)⟩)
  · exact q.elim⟩
theorem sim_setIx {i : Nat} {tk te fk f} (he : ESim X.K X.mg G (fun _ => E1) te f) (hk : ESim X.K X.mg G (fun _ => E1) tk fk) : SSim X.K X.mg G (fun _ => E1) (tAsg te (L2.gSub (tVar i) tk rSetL)) (mSetIx i fk f) := fun w ρ σ D I q => by
  refine he w ρ σ _ I (Good.imp (Good.bind1 q) (fun y S1 h1 => ?_) fun _ _ _ h => h.step I.stp I.gok I.ok)
  intro w1 v e1 s1 k1 rv
  subst e1
  have I1 := I.step s1 k1
  cases hi : ρ[i]? with
  | none => rw [hi] at h1; exact h1.elim
  | some sl =>
    cases sl with
    | none => rw [hi] at h1; exact h1.elim
    | pin c fs => rw [hi] at h1; exact h1.elim
    | own o =>
      cases o with
      | lst xs =>
        rw [hi] at h1
        obtain ⟨p, a, b, c, d, vs, r1, r2⟩ := I1.own i _ hi
        refine ⟨.ref p, a, hk w1 ρ σ _ I1 (Good.imp (Good.bind1 h1) (fun k S2 h2 => ?_) fun _ _ _ h => h.step I1.stp I1.gok I1.ok)⟩
        intro w2 u e2 s2 k2 rk
        subst e2
        have I2 := I1.step s2 k2
        cases k <;> first | exact h2.elim | skip
        rename_i j
        have h2 : Good (match ixN xs.length j with | some j' => Res.ok (Out.nx (ρ.set i (.own (.lst (xs.set j' y))))) w2.S | none => Res.bad) (PostS X.K G w D) (ExP X.K X.mg E1 G) := h2
        cases ej : ixN xs.length j with
        | none => rw [ej] at h2; exact h2.elim
        | some j' =>
          rw [ej] at h2
          have g2 : w2.H p = some (.lst vs) := s2.keep p _ r1 c
          have hO := s2.omono p b
          have hL : p ∉ w2.L := fun z => by
            rcases s2.lset p z with y | y
            · exact c y
            · rw [r1] at y; cases y
          refine ⟨p, vs, j, j', rfl, rk, g2, by rw [r2.len]; exact ej, ?_⟩
          exact h2 (w2.wr p (.lst (vs.set j' v))) σ rfl (((s1.v I.ok.sub).trans (s2.v k1.sub)).trans (wr_v hO)) (I2.wrOwn hi a hO hL d ⟨_, rfl, (r2.mono s2.pre (s2.ext k1.sub)).set (rv.mono s2.pre (s2.ext k1.sub)) _⟩)
      | _ => rw [hi] at h1; exact h1.elim
    | val z =>
      cases z with
      | obj n =>
        rw [hi] at h1
        obtain ⟨v0, a, r0⟩ := I1.val i _ hi
        refine ⟨v0, a, hk w1 ρ σ _ I1 (Good.imp (Good.bind1 h1) (fun k S2 h2 => ?_) fun _ _ _ h => h.step I1.stp I1.gok I1.ok)⟩
        intro w2 u e2 s2 k2 rk
        subst e2
        have I2 := I1.step s2 k2
        cases k <;> first | exact h2.elim | skip
        rename_i j
        have h2 : Good (match w2.S[n]? with
          | some (.lst xs) => (match ixN xs.length j with | some j' => Res.ok (Out.nx ρ) (w2.S.set n (.lst (xs.set j' y))) | none => Res.bad)
          | _ => Res.bad) (PostS X.K G w D) (ExP X.K X.mg E1 G) := h2
        cases eS : w2.S[n]? with
        | none => rw [eS] at h2; exact h2.elim
        | some o =>
          cases o with
          | lst xs =>
            rw [eS] at h2
            cases ej : ixN xs.length j with
            | none => simp only [ej] at h2; exact h2.elim
            | some j' =>
              simp only [ej] at h2
              have r0' := r0.mono s2.pre (s2.ext k1.sub)
              obtain ⟨p, vs, rfl, hp, r1, r2⟩ := st_at k2 r0' eS
              have rv2 := rv.mono s2.pre (s2.ext k1.sub)
              have k3 := put2_ok (ho := .lst (vs.set j' v)) (o := .lst (xs.set j' y)) k2 hp ⟨_, rfl, r2.set rv2 _⟩
              have s3 := put2_step (ho := .lst (vs.set j' v)) (o := .lst (xs.set j' y)) k2 hp
              refine ⟨p, vs, j, j', rfl, rk, r1, by rw [r2.len]; exact ej, ?_⟩
              exact h2 (w2.put2 p (.lst (vs.set j' v)) n (.lst (xs.set j' y))) σ rfl (((s1.v I.ok.sub).trans (s2.v k1.sub)).trans (s3.v k2.sub)) (I2.step s3 k3)
          | _ => rw [eS] at h2; exact h2.elim
      | _ => rw [hi] at h1; exact h1.elim
theorem fs_setIx {i : Nat} {x : Str} {px pt pos k e tk te fk f} (he : FE X G (fun _ => E1) e te f) (hk : FE X G (fun _ => E1) k tk fk) (pe : PS X (.Assign [.Subscript (.Name x px) k pt] e pos) (tAsg te (L2.gSub (tVar i) tk rSetL))) :
    FS X G (fun _ => E1) (.Assign [.Subscript (.Name x px) k pt] e pos) (tAsg te (L2.gSub (tVar i) tk rSetL)) (mSetIx i fk f) := ⟨pe, sim_setIx he.sim hk.sim⟩
end
/-- what a def promises: what its mirror gives -/
def spM (K : PySem.W.Frag) (mg : Str → Option Value) (n : Nat) (m : List PV → Store → Res PV) : Sp := fun vs H Q E => ∃ xs w, w.H = H ∧ WOk K w ∧ RVs K w.L w.hc xs vs ∧ xs.length = n ∧ Good (m xs w.S) (PostX K w Q) (ExP K mg E w)
def rho0 (nN : Nat) (xs : List PV) : Rho := xs.map Slot.val ++ List.replicate (nN - xs.length) Slot.none
def toRet : Out → Store → Res PV
  | .rt x, S => .ok x S
  | .nx _, S => .ok .non S
  | _, _ => .bad
def mDef (nN : Nat) (f : Rho → Store → Res Out) : List PV → Store → Res PV := fun xs S => (f (rho0 nN xs) S).bind toRet
theorem FI.begin {K : PySem.W.Frag} {w : Wd} {xs : List PV} {vs : List V} {N : List Str} (k : WOk K w) (r : RVs K w.L w.hc xs vs) : FI K w w (rho0 N.length xs) (start N vs) := by
  have e : vs.length = xs.length := r.len
  refine ⟨k, k, WStep.refl k.sub, by unfold rho0 L2.start; simp [e], fun i x h => ?_, fun i o h => ?_, fun i j oi oj _ h => ?_, fun i c fs h => ?_⟩
  · unfold rho0 at h
    by_cases hi : i < xs.length
    · rw [List.getElem?_append_left (by simpa using hi), List.getElem?_map] at h
      rw [List.getElem?_eq_getElem hi] at h
      cases h
      obtain ⟨v, e1, e2⟩ := r.get (List.getElem?_eq_getElem hi)
      refine ⟨v, ?_, e2⟩
      unfold L2.start
      rw [List.getElem?_append_left (by simpa [e] using hi), List.getElem?_map, e1]
      rfl
    · rw [List.getElem?_append_right (by simpa using hi)] at h
      have := List.mem_of_getElem? h
      rw [List.mem_replicate] at this
      cases this.2
  all_goals
    have := List.mem_of_getElem? h
    unfold rho0 at this
    rw [List.mem_append, List.mem_map, List.mem_replicate] at this
    rcases this with ⟨_, _, e⟩ | ⟨_, e⟩ <;> cases e
theorem sim_def {K : PySem.W.Frag} {mg : Str → Option Value} {N : List Str} {n : Nat} {t : TS} {f : Rho → Store → Res Out} {vs : List V} {H : Hp} {Q : VK} {E : XK} (h : spM K mg n (mDef N.length f) vs H Q E) (hs : ∀ G, SSim K mg G (fun _ => E) t f) :
    t { nx := fun _ H' => Q .non H', rt := Q } (start N vs) H := by
  obtain ⟨xs, w, rfl, k, r, hl, g⟩ := h
  refine hs w w _ _ _ (FI.begin k r) (Good.imp (Good.bind1 g) (fun o S h => ?_) fun _ _ _ h => h)
  cases o with
  | nx ρ => exact fun w' σ' e _ I => h w' .non e I.stp I.ok rfl
  | rt x => exact h
  | bk ρ => exact h.elim
  | ct ρ => exact h.elim
theorem spM_len {K : PySem.W.Frag} {mg : Str → Option Value} {n : Nat} {m} : ∀ vs H Q E, spM K mg n m vs H Q E → vs.length = n := fun vs H Q E ⟨xs, w, _, _, r, hl, _⟩ => r.len.trans hl
/-- a def at f keeps the promise sp wherever no guarded built-in (a repr) runs around it -/
structure FnG (P : Program) (w : World) (K : PySem.W.Frag) (mg : Str → Option Value) (base : Heap) (k : Nat) (f : Addr) (fd : FuncData) (ps : List Str) (sp : Sp) : Prop where
  arity : ∀ vs H Q E, sp vs H Q E → vs.length = ps.length
  go : ∀ (A : Around) (outer : List Env) (s : Shared) (H : Hp) (args : Args) (us : List Value) (vs : List V) (Q : VK) (E : XK), A.guards = some [] → Room k A →
    Env0 P w K mg base A outer s H → BindsTo s fd args (ps.zip us) → Vals vs us → sp vs H Q E → codeAny (model P w) A (.call (.ref f) args) (CR (L2.CX P w) outer P w H s Q E) s
theorem FnG.up {P : Program} {w : World} {K : PySem.W.Frag} {mg : Str → Option Value} {base : Heap} {j k : Nat} {f : Addr} {fd : FuncData} {ps : List Str} {sp : Sp} (F : FnG P w K mg base j f fd ps sp) (h : j ≤ k) : FnG P w K mg base k f fd ps sp :=
  ⟨F.arity, fun A outer s H args us vs Q E hg hr => F.go A outer s H args us vs Q E hg (hr.mono h)⟩
theorem fnG_of {P : Program} {w : World} {K : PySem.W.Frag} {mg : Str → Option Value} {base : Heap} {k : Nat} {x qual : Str} {st : Stmt} {f : Addr} {fd : FuncData} {N ps : List Str} {sp : Sp} (F : Fun K x qual st f fd) (S : FnScope N ps (defScope st))
    (ar : ∀ vs H Q E, sp vs H Q E → vs.length = ps.length)
    (body : ∀ (cdv : Value) (A : Around) (outer : List Env) (s : Shared) (H : Hp) (vs : List V) (Q : VK) (E : XK), A.guards = some [] → Room k (A.deeper (envOfC qual (defScope st) s.heap.objs.size f cdv)) → sp vs H Q E →
      ∃ t, PSs (cxOf (L2.CX P w) P w K mg base N qual (defScope st) f cdv A outer s H E) (defBody st) t ∧ t { nx := fun _ H' => Q .non H', rt := Q } (L2.start N vs) H) :
    FnG P w K mg base (k + 1) f fd ps sp := by
  obtain ⟨oc, od, kV, doc, pm, an, cdv, ct, osl, rfl, lk, hcd⟩ := F.ex
  refine ⟨ar, fun A outer s H args us vs Q E hgd hr e0 hb r hsp => ?_⟩
  have inK : K.In s.heap := e0.mod.kin.keeps fun a u z => (e0.bs a u z).1
  have kinds : ∀ y ∈ ps.zip us, (defScope st).names.lookup y.1 = some .local ∨ ((defScope st).names.lookup y.1 = some .cell ∧ ((cellsFrom (s.heap.objs.size + 1) (defScope st).names []).lookup y.1).isSome = true) := by
    rintro ⟨n, v⟩ hy
    exact (S.par n (List.of_mem_zip hy).1).imp id fun q => ⟨q, PySem.W.cellsFrom_some _ _ _ (.inl q)⟩
  refine codeAny_call_function hr.depth (inK _ _ lk) rfl S.co S.gen rfl (PySem.W.codeRec_of inK hcd) (hb _ _ _ _ (wpAny_newFunctionEnv_cells S.kind kinds fun env he s1 x => ?_))
  subst he
  refine ⟨(e0.mod.nolimit.keeps fun a u z => (e0.bs a u z).1).keeps x.toInCall.keep, codeAny_func ?_⟩
  obtain ⟨t, ht, hq⟩ := body cdv A outer s H vs Q E hgd (hr.deeper _) hsp
  have I0 := inv_start (CX := L2.CX P w) (E := E) (cd := cdv) (qual := qual) (f := f) S hr.hd e0 (ar _ _ _ _ hsp) r x
  refine wpAny_mono (ht.run [] s1 (L2.start N vs) H _ I0 hq) (fun fl s' hs => ?_) fun _ _ z => z
  cases fl with
  | ret u => exact let ⟨v, _, H', J, rv, q⟩ := hs; ⟨v, H', J.os, J.bare, J.base, J.hok, rv, q⟩
  | next => exact let ⟨_, H', J, q⟩ := hs; ⟨V.non, H', J.os, J.bare, J.base, J.hok, rfl, q⟩
  | brk => exact let ⟨_, _, _, q⟩ := hs; q.elim
  | cont => exact let ⟨_, _, _, q⟩ := hs; q.elim
/-- a def whose mirror is known -/
theorem ok_def {P : Program} {w : World} {K : PySem.W.Frag} {mg : Str → Option Value} {base : Heap} {x qual : Str} {st : Stmt} {f : Addr} {fd : FuncData} {N ps : List Str} {k : Nat} {fm : Rho → Store → Res Out}
    (F : Fun K x qual st f fd) (S : FnScope N ps (defScope st))
    (body : ∀ (cdv : Value) (A : Around) (outer : List Env) (s : Shared) (H : Hp) (E : XK), A.guards = some [] → Room k (A.deeper (envOfC qual (defScope st) s.heap.objs.size f cdv)) →
      ∃ ts, ∀ G, FSs (cxOf (L2.CX P w) P w K mg base N qual (defScope st) f cdv A outer s H E) G (fun _ => E) (defBody st) ts fm) :
    FnG P w K mg base (k + 1) f fd ps (spM K mg ps.length (mDef N.length fm)) := by
  refine fnG_of F S spM_len fun cdv A outer s H vs Q E hg hr h => ?_
  obtain ⟨ts, hb⟩ := body cdv A outer s H E hg hr
  exact ⟨ts, (hb ⟨[], [], fun _ => none, [], none⟩).pe, sim_def h fun G => (hb G).sim⟩
section
variable {X : Cx} {k : Nat} {f : Addr} {fd : FuncData} {ps ks : List Str} {sp : Sp} {E : XK} {x : Str} {p pos : Pos} {e : Expr} {es : List Expr} {t tk : TA}
theorem goG {pins : List (Addr × Obj)} {σ : L2.St} {H : Hp} {s : Shared} {Q : VK} {args : Args} {us : List Value} {vs : List V} (F : FnG X.prog X.w X.K X.mg X.base k f fd ps sp) (hg : X.A.guards = some []) (hr : Room k X.A) (hx : PassesAt (L2.CX X.prog X.w) X σ E) (I : Inv X pins σ H s)
    (hb : BindsTo s fd args (ps.zip us)) (r : Vals vs us) (h : sp vs H Q E) : codeAny (model X.prog X.w) X.A (.call (.ref f) args) (fun r s' => match r with | .ok (.ret u) => EP X pins σ Q u s' | .ok _ => False | .error e => X.xe e s') s := by
  refine codeAny_mono (F.go X.A X.stack s H args us vs Q E hg hr I.env0 hb r h) fun r s' hq => ?_
  match r, hq with
  | .error e, hq => exact hx pins H s e s' I hq
  | .ok (.ret u), hq => exact I.after hq
theorem callG {pins : List (Addr × Obj)} {σ : L2.St} {H : Hp} {s : Shared} {Q : VK} {kw : List (Str × Value)} {us0 us : List Value} {vs : List V} (F : FnG X.prog X.w X.K X.mg X.base k f fd ps sp) (hg : X.A.guards = some []) (hr : Room k X.A) (hx : PassesAt (L2.CX X.prog X.w) X σ E) (I : Inv X pins σ H s)
    (hb : BindsTo s fd ⟨us0, kw⟩ (ps.zip us)) (r : Vals vs us) (h : sp vs H Q E) : wpAny (model X.prog X.w) X.A (call (.ref f) us0 kw) (EP X pins σ Q) X.xe s := by
  refine wpAny_call (codeAny_mono (goG F hg hr hx I hb r h) fun r s' hq => ?_)
  match r, hq with
  | .error e, hq => exact hq
  | .ok (.ret u), hq => exact hq
theorem peG_call {E : EK} {dvs : List V} {ds : List Value} (F : FnG X.prog X.w X.K X.mg X.base k f fd ps sp) (hg0 : X.A.guards = some []) (hr : Room k X.A) (hg : Gl X x) (hm : X.mg x = some (.ref f)) (hk : PySem.W.keepIn X.K (.ref f) = true) (hb : Binds X.K fd ps ds) (hd : Vals dvs ds) (hx : ∀ σ, PassesAt (L2.CX X.prog X.w) X σ (E σ))
    (ha : PA X (e :: es) t) (hdb : (x == ("__debug__" : Str)) = false) (he : starEach (e :: es) X.env = (false, eval e X.env) :: starEach es X.env) (hpl : (backTo pos (starEach es X.env)).any (·.1) = false) : PE X (.Call (.Name x p) (e :: es) [] pos) (tCallSD sp dvs E t) :=
  ⟨fun pins s σ H Q I h => wpAny_Call_Name_kw (ld_glob I hg hm (PySem.W.callWith_K (h₀ := X.base) I.ok.mod.kin hk (thn (ha.run pos pins s σ H _ I h) fun us s1 ⟨vs, H1, I1, r, q⟩ => ⟨I1.kIn, by
    have r2 := r.append hd
    refine callG F hg0 hr (hx σ) I1 (hb s1 us I1.kIn ?_) r2 q
    rw [← r2.length]
    exact F.arity _ _ _ _ q⟩) he hpl) hdb)⟩
variable {kws : List Keyword} {g : List Value → List Value → List Value} {gV : List V → List V → List V}
end
section
variable {X : Cx} {G : Wd} {E : EK}
theorem post_call {K : PySem.W.Frag} {w w1 : Wd} {Q : VK} {x : PV} {S : Store} (k : WOk K w) (k1 : WOk K w1) (s1 : WStep w w1) (h : PostV K w Q x S) : PostX K w1 Q x S := fun w' v e s' k' r => by
  have hO : ∀ a ∈ w1.O ++ w'.L, a ∈ w'.O := fun a h => (List.mem_append.mp h).elim (s'.omono a) (k'.sub a)
  have ext : ∀ a o, w'.hc a = some o → cut w'.H (w1.O ++ w'.L) a = some o := fun a o h => by
    obtain ⟨h1, h2⟩ := cut_some h
    rw [cut_out fun z => h1 (hO a z)]
    exact h2
  refine h { w' with O := w1.O ++ w'.L } v e (s1.tr (w1 := w1) ⟨s'.pre, s'.keep, fun a h => List.mem_append_left _ h, fun a h => ?_, s'.lset⟩ k k1) ⟨fun a h => List.mem_append_right _ h, k'.nd, k'.len, fun n o a h1 h2 => (k'.st n o a h1 h2).mono (List.prefix_refl _) ext, fun a h => k'.dom a (hO a h)⟩ r
  rcases List.mem_append.mp h with h | h
  · exact .inl h
  · rcases s'.lset a h with z | z
    · exact .inl (k1.sub a z)
    · exact .inr z
/-- a call of a def: dps the defaults that are not given -/
def mCall (n : Nat) (m : List PV → Store → Res PV) (dps : List PV) (fa : Rho → Store → Res (List PV)) : Rho → Store → Res PV := fun ρ S => (fa ρ S).bind fun xs S1 => if (xs ++ dps).length = n then m (xs ++ dps) S1 else .bad
theorem sim_call {K mg} {n : Nat} {m : List PV → Store → Res PV} {dps : List PV} {dvs : List V} {t : TA} {fa} (hd : ∀ L Hc, RVs K L Hc dps dvs) (ha : ASim K mg G E t fa) : ESim K mg G E (tCallSD (spM K mg n m) dvs E t) (mCall n m dps fa) := fun w ρ σ Q I q => by
  refine ha w ρ σ _ I (Good.imp (Good.bind1 q) (fun xs S1 h1 => ?_) fun _ _ _ h => h)
  intro w1 vs e1 s1 k1 r1
  subst e1
  obtain ⟨c, h1⟩ := good_if h1
  exact ⟨xs ++ dps, w1, rfl, k1, r1.append (hd _ _), c, Good.imp h1 (fun x S h => post_call I.ok k1 s1 h) fun _ _ _ h => h.step s1 I.ok k1⟩
theorem fe_call {k : Nat} {f : Addr} {fd : FuncData} {ps : List Str} {n : Nat} {m : List PV → Store → Res PV} {x : Str} {p pos e es t fa} (F : FnG X.prog X.w X.K X.mg X.base k f fd ps (spM X.K X.mg n m)) (hg0 : X.A.guards = some []) (hr : Room k X.A) (hm : X.mg x = some (.ref f)) (hk : PySem.W.keepIn X.K (.ref f) = true)
    (hb : Binds X.K fd ps []) (hx : ∀ σ, PassesAt (L2.CX X.prog X.w) X σ (E σ)) (ha : FA X G E (e :: es) t fa) (hg : Gl X x := by rfl) (hdb : (x == ("__debug__" : Str)) = false := by decide) (he : starEach (e :: es) X.env = (false, eval e X.env) :: starEach es X.env := by rfl)
    (hpl : (backTo pos (starEach es X.env)).any (·.1) = false := by rfl) : FE X G E (.Call (.Name x p) (e :: es) [] pos) (tCallSD (spM X.K X.mg n m) [] E t) (mCall n m [] fa) :=
  ⟨peG_call F hg0 hr hg hm hk hb .nil hx ha.pe hdb he hpl, sim_call (fun _ _ => rfl) ha.sim⟩
/-- gP: how the parameters come of the positional values and the keywords' ones -/
def mCallK (n : Nat) (m : List PV → Store → Res PV) (gP : List PV → List PV → List PV) (fa fk : Rho → Store → Res (List PV)) : Rho → Store → Res PV := fun ρ S => (fa ρ S).bind fun xs S1 => (fk ρ S1).bind fun ys S2 => if (gP xs ys).length = n then m (gP xs ys) S2 else .bad
end
end Mir
set_option maxHeartbeats 4000000
namespace Mir
open PySem PySem.Spec PyProof.Rows L2
theorem cx_false {P : Program} {w : World} {H : Hp} {s s' : Shared} {e : Value} (h : L2.CX P w [] H s (fun _ _ _ => False) e s') : False := by
  obtain ⟨_, _, _, _, _, _, _, _, _, _, _, _, z⟩ := h
  exact z.elim
/-- the script's heap: the script alone, locked -/
def scrH (a : Addr) (o : Obj) (xs : List V) : Hp := fun b => if b = a then some (.frz o (.lst xs)) else none
theorem scrH_some {a : Addr} {o : Obj} {xs : List V} {b : Addr} {u : HO} (h : scrH a o xs b = some u) : b = a ∧ u = .frz o (.lst xs) := by
  unfold scrH at h
  split at h
  · cases h; exact ⟨‹_›, rfl⟩
  · cases h
/-- the law called over the heap behind the top -/
theorem law_run {P : Program} {w : World} {K : PySem.W.Frag} {mg mb : Str → Option Value} {k : Nat} {fa a : Addr} {fd : FuncData} {x : Str} {sp : Sp} {s1 : Shared} {vs : List Value} {ns : List Int}
    (KX : K.In s1.heap) (hns : s1.heap.Ns mainGlobals mg) (hb : s1.heap.Ns builtinsNs mb) (hbb : ∀ x : Str, x ≠ "__name__" → mb x = bootBuiltins x) (hlim : s1.heap.NoLimit) (hg : s1.gens = #[])
    (ha : s1.heap.get? a = some { cls := .type "list", data := .seq vs.toArray }) (hi : IntsAre vs ns) (hl : ns.length ≤ sizeLine) (hr : Room k callerA)
    (F : ∀ base : Heap, K.In base → base.Ns mainGlobals mg → FnG P w K mg base k fa fd [x] sp) (hbind : ∀ (s : Shared) (u : Value), BindsTo s fd ⟨[u], []⟩ [(x, u)])
    (hsp : ∀ H : Hp, Only H → SqL K H a (ns.map V.int) → sp [.ref a] H (fun v _ => v = .bl true) fun _ _ _ => False) :
    codeAny (model P w) callerA (.call (.ref fa) ⟨[.ref a], []⟩) (fun r s' => r = .ok (.ret (.bool true)) ∧ OldK s1.heap s'.heap ∧ s'.os = s1.os ∧ AllBare s'.gens) s1 := by
  -- over an abstract heap that holds the script alone, or nothing
  have key : ∀ H : Hp, (∀ b u, H b = some u → b = a ∧ K.lookup a = none ∧ u = .frz { cls := .type "list", data := .seq vs.toArray } (.lst (ns.map V.int))) → SqL K H a (ns.map V.int) →
      codeAny (model P w) callerA (.call (.ref fa) ⟨[.ref a], []⟩) (fun r s' => r = .ok (.ret (.bool true)) ∧ OldK s1.heap s'.heap ∧ s'.os = s1.os ∧ AllBare s'.gens) s1 := by
    intro H only hS
    have free : ∀ b, b ≠ a → H b = none := fun b n => by
      cases q : H b with
      | none => rfl
      | some u => exact absurd (only b u q).1 n
    have hok : HOk P w H s1.heap := fun b u q => by
      obtain ⟨rfl, _, rfl⟩ := only b u q
      exact ⟨ha, by rw [List.length_map]; exact hl, vs, _, vals_ints hi, ha⟩
    have nsok : ∀ {b : Addr} {m : Str → Option Value}, s1.heap.Ns b m → (hidT s1.heap H).Ns b m := by
      rintro b m ⟨o, es, ep, e, d, r⟩
      refine ⟨o, es, ep, hidT_get e (free b ?_), d, r⟩
      rintro rfl
      rw [ha] at e
      cases e
      have d' : Data.seq vs.toArray _ = Data.dict es ep := d
      cases d'
    have kb : K.In (hidT s1.heap H) := fun b o e => hidT_get (KX b o e) (by
      cases q : H b with
      | none => rfl
      | some u =>
        obtain ⟨rfl, z, _⟩ := only b u q
        rw [z] at e; cases e)
    have md : Mod K mg (hidT s1.heap H) := by
      obtain ⟨mc, h1, h2⟩ := hlim
      exact ⟨kb, nsok hns, ⟨mb, nsok hb, hbb⟩, mc, nsok h1, h2⟩
    have hOnly : Only H := fun b => by
      cases q : H b with
      | none => exact .inl rfl
      | some u => exact .inr ⟨_, _, by rw [(only b u q).2.2]⟩
    have e0 : Env0 P w K mg (hidT s1.heap H) callerA [] s1 H := ⟨rfl, md, fun b o e => of_hidT e, Nat.le_of_eq (hidT_size _ _), trivial, fun b hb => by simp [frs] at hb, hok, .of_eq hg⟩
    refine codeAny_mono ((F _ kb (nsok hns)).go callerA [] s1 H ⟨[.ref a], []⟩ [.ref a] [.ref a] _ _ rfl hr e0 (hbind s1 (.ref a)) (.cons rfl .nil) (hsp H hOnly hS)) fun r s' h => ?_
    match r, h with
    | .error e, h => exact (cx_false h).elim
    | .ok (.ret u), h =>
      obtain ⟨v, H', os, bare, un, hok', rv, q⟩ := h
      have q : v = .bl true := q
      subst q
      have rv : u = Value.bool true := rv
      subst rv
      refine ⟨rfl, OldK.of_keep fun b o e => ?_, os, bare⟩
      cases q : H b with
      | none => exact un.keep b o e q (by simp [frs]) (by simp)
      | some z =>
        obtain ⟨rfl, _, rfl⟩ := only b z q
        have g1 := (hok b _ q).1
        have g2 := (hok' b _ (un.frzs b _ _ q)).1
        rw [e] at g1
        cases g1
        exact g2
  cases hk : K.lookup a with
  | some o =>
    have e := KX a o hk
    rw [ha] at e
    cases e
    exact key (fun _ => none) (fun b u q => nomatch q) (.inr ⟨_, vs.toArray, _, hk, rfl, rfl, rfl, by rw [List.size_toArray, hi.length]; exact hl, by simpa using vals_ints hi⟩)
  | none => exact key (scrH a _ (ns.map V.int)) (fun b u q => ⟨(scrH_some q).1, hk, (scrH_some q).2⟩) (.inl (.inr ⟨_, if_pos rfl⟩))
/-- the law's promise: its mirror gives True of every script -/
theorem spM_law {K : PySem.W.Frag} {mg : Str → Option Value} {m : List PV → Store → Res PV} {H : Hp} {a : Addr} {ns : List Int} (hS : SqL K H a (ns.map V.int)) (hm : ∃ S, m [.cl (ns.map PV.int)] [] = .ok (.bl true) S) : spM K mg 1 m [.ref a] H (fun v _ => v = .bl true) fun _ _ _ => False := by
  obtain ⟨S, e⟩ := hm
  have rs : ∀ (L : List Addr) (Hc : Hp) (l : List Int), RVs K L Hc (l.map PV.int) (l.map V.int) := fun L Hc l => by
    induction l with
    | nil => rfl
    | cons i l ih => exact ⟨_, _, rfl, rfl, ih⟩
  refine ⟨[.cl (ns.map PV.int)], ⟨[], [], H, [], none⟩, rfl, ⟨fun _ h => (nomatch h), List.nodup_nil, rfl, fun n o a h => by simp at h, fun _ h => (nomatch h)⟩, ⟨_, [], rfl, ⟨a, ns.map V.int, rfl, ?_, rs _ _ ns⟩, rfl⟩, rfl, ?_⟩
  · have : (Wd.hc ⟨[], [], H, [], none⟩) = H := by
      funext b
      show cut H [] b = H b
      rw [cut_out (by simp)]
    rw [this]
    exact hS
  · show Good (m [.cl (ns.map PV.int)] []) _ _
    rw [e]
    exact fun w' v _ _ _ r => r
/-- the goal behind the head, from the law's mirror -/
theorem walk_mir {l : PySem.W.OpenLaw} {n k : Nat} {q : Program} {loose : List Str} {XP : (Str → Option Value) → Heap → Prop} {YP : World → Heap → Prop} {d : DefRec} {x : Str} {m : List PV → Store → Res PV}
    (hn : l.most = some n) (hn2 : n ≤ sizeLine) (hdf : d.params.defaults = []) (hr : Room k callerA)
    (F : ∀ (w : World) (mg : Str → Option Value) (fa : Addr) (h : Heap), YP w h → h.Ns mainGlobals mg → mg d.name = some (.ref fa) →
      ∃ (K : PySem.W.Frag) (fd : FuncData), K.In h ∧ (∀ (s : Shared) (u : Value), BindsTo s fd ⟨[u], []⟩ [(x, u)]) ∧ ∀ base : Heap, K.In base → base.Ns mainGlobals mg → FnG l.prog w K mg base k fa fd [x] (spM K mg 1 m))
    (hm : ∀ ns : List Int, ns.length ≤ n → ∃ S, m [.cl (ns.map PV.int)] [] = .ok (.bl true) S) :
    PySem.W.WalkO q loose XP YP l.row.toRowW d [] (fun f vs => PySem.call f vs) := by
  refine Att.attach_call hn hdf fun w s0 s1 mg mb fa o pm cd doc a vs ns G Y ho hd hcd hmg hobj hints hlen hg => ?_
  obtain ⟨K, fd, KX, hb, hF⟩ := F w mg fa _ Y G.T.g hmg
  exact law_run KX G.T.g G.T.b G.T.builtins G.T.nolimit hg hobj hints (Nat.le_trans hlen hn2) hr hF hb fun H _ hS => spM_law hS (hm ns hlen)
end Mir
set_option maxHeartbeats 4000000
namespace Mir
open PySem PySem.Spec PyProof.Rows L2
mutual
def toD : PV → Option PyData
  | .non => some .none
  | .bl b => some (.bool b)
  | .int i => some (.int i)
  | .str x => some (.str x)
  | .tup xs => (toDs xs).map .tuple
  | .lst xs => (toDs xs).map .list
  | .cl xs => (toDs xs).map .list
  | .obj _ => none
  | .dk _ _ => none
  | .ins _ _ _ => none
  | .fn _ => none
  | .pt _ => none
def toDs : List PV → Option (List PyData)
  | [] => some []
  | x :: xs => match toD x, toDs xs with
    | some d, some ds => some (d :: ds)
    | _, _ => none
end
mutual
theorem toD_noDict : ∀ {x : PV} {d : PyData}, toD x = some d → d.hasDict = false
  | .non, _, h => by simp only [toD] at h; cases h; rfl
  | .bl _, _, h => by simp only [toD] at h; cases h; rfl
  | .int _, _, h => by simp only [toD] at h; cases h; rfl
  | .str _, _, h => by simp only [toD] at h; cases h; rfl
  | .tup xs, _, h => by
    simp only [toD, Option.map_eq_some_iff] at h
    obtain ⟨ds, e, rfl⟩ := h
    simp only [PyData.hasDict]
    exact toDs_noDict e
  | .lst xs, _, h => by
    simp only [toD, Option.map_eq_some_iff] at h
    obtain ⟨ds, e, rfl⟩ := h
    simp only [PyData.hasDict]
    exact toDs_noDict e
  | .cl xs, _, h => by
    simp only [toD, Option.map_eq_some_iff] at h
    obtain ⟨ds, e, rfl⟩ := h
    simp only [PyData.hasDict]
    exact toDs_noDict e
  | .obj _, _, h => by simp only [toD] at h; cases h
  | .dk _ _, _, h => by simp only [toD] at h; cases h
  | .ins _ _ _, _, h => by simp only [toD] at h; cases h
  | .fn _, _, h => by simp only [toD] at h; cases h
  | .pt _, _, h => by simp only [toD] at h; cases h
theorem toDs_noDict : ∀ {xs : List PV} {ds : List PyData}, toDs xs = some ds → PyData.hasDictAll ds = false
  | [], _, h => by simp only [toDs] at h; cases h; rfl
  | x :: xs, _, h => by
    simp only [toDs] at h
    split at h
    · rename_i d ds e1 e2
      cases h
      simp only [PyData.hasDictAll, toD_noDict e1, toDs_noDict e2, Bool.or_false]
    · cases h
end
mutual
theorem toD_dp {K : PySem.W.Frag} {L : List Addr} {Hc H : Hp} (e : ∀ a o, Hc a = some o → H a = some o) : ∀ {x : PV} {d : PyData} {v : V}, toD x = some d → RV K L Hc x v → Dp K H v d
  | .non, _, v, h, r => by
    simp only [toD] at h; cases h
    have r : v = .non := r
    subst r; exact .non
  | .bl b, _, v, h, r => by
    simp only [toD] at h; cases h
    have r : v = .bl b := r
    subst r; exact .bl b
  | .int i, _, v, h, r => by
    simp only [toD] at h; cases h
    have r : v = .int i := r
    subst r; exact .int i
  | .str x, _, v, h, r => by
    simp only [toD] at h; cases h
    have r : v = .str x := r
    subst r; exact .str x
  | .tup xs, _, v, h, r => by
    simp only [toD, Option.map_eq_some_iff] at h
    obtain ⟨ds, e1, rfl⟩ := h
    obtain ⟨a, vs, rfl, r1, r2⟩ := r
    exact .tup (sqT_mono e r1) (toDs_dp e e1 r2)
  | .lst xs, _, v, h, r => by
    simp only [toD, Option.map_eq_some_iff] at h
    obtain ⟨ds, e1, rfl⟩ := h
    obtain ⟨a, vs, rfl, r1, r2⟩ := r
    exact .lst (.inl (.inl (e _ _ r1))) (toDs_dp e e1 r2)
  | .cl xs, _, v, h, r => by
    simp only [toD, Option.map_eq_some_iff] at h
    obtain ⟨ds, e1, rfl⟩ := h
    obtain ⟨a, vs, rfl, r1, r2⟩ := r
    exact .lst (sqL_mono e r1) (toDs_dp e e1 r2)
  | .obj _, _, _, h, _ => by simp only [toD] at h; cases h
  | .dk _ _, _, _, h, _ => by simp only [toD] at h; cases h
  | .ins _ _ _, _, _, h, _ => by simp only [toD] at h; cases h
  | .fn _, _, _, h, _ => by simp only [toD] at h; cases h
  | .pt _, _, _, h, _ => by simp only [toD] at h; cases h
theorem toDs_dp {K : PySem.W.Frag} {L : List Addr} {Hc H : Hp} (e : ∀ a o, Hc a = some o → H a = some o) : ∀ {xs : List PV} {ds : List PyData} {vs : List V}, toDs xs = some ds → RVs K L Hc xs vs → DpAll K H vs ds
  | [], _, vs, h, r => by
    simp only [toDs] at h; cases h
    have r : vs = [] := r
    subst r; exact .nil
  | x :: xs, _, vs, h, r => by
    simp only [toDs] at h
    split at h
    · rename_i d ds e1 e2
      cases h
      obtain ⟨v, us, rfl, r1, r2⟩ := r
      exact .cons (toD_dp e e1 r1) (toDs_dp e e2 r2)
    · cases h
end
def rRepr (K : PySem.W.Frag) : List V → Hp → VK → Prop := fun xs H Q => ∃ x d, xs = [x] ∧ Dp K H x d ∧ PyData.showable d = true ∧ d.hasDict = false ∧ d.shown.length ≤ sizeLine ∧ d.depth ≤ 60 ∧ Q (.str d.shown) H
def reprOk (d : PyData) : Bool := PyData.showable d && decide (d.shown.length ≤ sizeM) && decide (d.depth ≤ 60)
def gRepr : List PV → Store → Res PV
  | [x], S => match toD x with
    | some d => if reprOk d = true then .ok (.str d.shown) S else .bad
    | none => .bad
  | _, _ => .bad
theorem ra_repr {K : PySem.W.Frag} {mg : Str → Option Value} {E : XK} : RASim K mg E (rRepr K) gRepr := fun w xs vs Q k r g => by
  match xs, g, r with
  | [x], g, r =>
    obtain ⟨v, rfl, r1⟩ := vs1 r
    have g : Good (match toD x with | some d => (if reprOk d = true then Res.ok (.str d.shown) w.S else .bad) | none => .bad) (PostV K w Q) (ExP K mg E w) := g
    cases e : toD x with
    | none => rw [e] at g; exact g.elim
    | some d =>
      rw [e] at g
      obtain ⟨c, g⟩ := good_if g
      unfold reprOk at c
      simp only [Bool.and_eq_true, decide_eq_true_eq] at c
      exact ⟨v, d, rfl, toD_dp (fun a o h => (cut_some h).2) e r1, c.1.1, toD_noDict e, sizeM_le c.1.2, c.2, post_self k g rfl rfl⟩
section
variable {prog : Program} {w : World} {A : Around} {E : Value → Shared → Prop} {s : Shared}
theorem sum_tup {l : Addr} {its : List Value} {ns : List Int} {Q : Value → Shared → Prop} (hh : A.handled = none) (hl : s.heap.IsTuple l its.toArray) (hi : IntsAre its ns)
    (h : ∀ h' tk t', (∀ b o, s.heap.get? b = some o → h'.get? b = some o) → Q (.int ns.sum t') { s with heap := h', toks := tk }) : wpAny (model prog w) A (call (.builtin "sum") [.ref l]) Q E s := by
  obtain ⟨xs, e⟩ := hi.allInts.items
  have hn : numsOf (intItems xs).toList = ns := by rw [← e]; exact hi.numsOf
  rw [nums_intItems] at hn
  rw [e] at hl
  have hlt : l < s.heap.objs.size := let ⟨_, z, _⟩ := hl; Heap.lt_size z
  refine call_sum_walkG (PySem.W.iter_tupleW (A := A.in1) hh hl fun s2 e2 W st hfp hn1 hk => ⟨_, _, _, _, _, _, numAt xs, rfl, Walks.tuple (A := A.in1) hh _ l (Nat.ne_of_lt hlt) (intItems xs), st, hfp, fun _ _ => intItems_at, fun h' tk t' kp => ?_⟩)
  subst e2
  have := h h' tk t' fun b o z => kp b o (hn1 b o z) (hk b o z)
  rw [preSum_eq, List.take_of_length_le (by simp [intItems]), hn]
  exact this
end
def rSumT (K : PySem.W.Frag) : List V → Hp → VK → Prop := fun vs H Q => ∃ (a : Addr) (ns : List Int), vs = [V.ref a] ∧ SqT K H a (ns.map V.int) ∧ Q (.int ns.sum) H
theorem vals_are : ∀ {ns : List Int} {us : List Value}, Vals (ns.map V.int) us → IntsAre us ns
  | [], us, r => by
    cases r
    exact .nil
  | n :: ns, us, r => by
    cases r with
    | cons r1 r2 =>
      obtain ⟨t, rfl⟩ := r1
      exact .cons n t (vals_are r2)
theorem cr_sumT {X : Cx} (hc : X.calm = true) : CallR X (.builtin "sum") (rSumT X.K) := by
  intro pins s σ H vs us Q I r h
  obtain ⟨a, ns, rfl, hs, q⟩ := h
  obtain ⟨u, rfl, ru⟩ := vals1 r
  cases ru
  obtain ⟨its, rv, p, _⟩ := I.tuple hs
  exact sum_tup (I.ok.hd hc) (show s.heap.IsTuple a its.toArray from p) (vals_are rv) fun h' tk t' kp => ⟨.int _, H, I.kept (t' := tk) kp, ⟨t', rfl⟩, q⟩
theorem CallR.or {X : Cx} {f : Value} {r r' : List V → Hp → VK → Prop} (h : CallR X f r) (h' : CallR X f r') : CallR X f (fun xs H Q => r xs H Q ∨ r' xs H Q) := fun pins s σ H xs us Q I rv q => q.elim (h pins s σ H xs us Q I rv) (h' pins s σ H xs us Q I rv)
def gSum : List PV → Store → Res PV
  | [.lst xs], S => match xs.mapM toI with | some bs => .ok (.int bs.sum) S | none => .bad
  | [.tup xs], S => match xs.mapM toI with | some bs => .ok (.int bs.sum) S | none => .bad
  | _, _ => .bad
theorem ra_sumA {K : PySem.W.Frag} {mg : Str → Option Value} {E : XK} : RASim K mg E (fun xs H Q => rSum K xs H Q ∨ rSumT K xs H Q) gSum := fun w xs vs Q k r g => by
  match xs, g, r with
  | [.lst ys], g, r => exact .inl (ra_sum (mg := mg) (E := E) w [.lst ys] vs Q k r g)
  | [.tup ys], g, r =>
    obtain ⟨v, rfl, a, us, rfl, r1, r2⟩ := vs1 r
    have g : Good (match ys.mapM toI with | some bs => Res.ok (.int bs.sum) w.S | none => Res.bad) (PostV K w Q) (ExP K mg E w) := g
    cases e : ys.mapM toI with
    | none => rw [e] at g; exact g.elim
    | some bs =>
      rw [e] at g
      exact .inr ⟨a, bs, rfl, by rw [← toIs_rv e r2]; exact hc_sqT r1, post_self k g rfl rfl⟩
end Mir
set_option maxHeartbeats 4000000
namespace Mir
open PySem PySem.Spec PyProof.Rows L2
section
variable {X : Cx} {G : Wd} {E : EK} {E1 : XK}
/-- x[k], x a list of ours -/
def mIxOwn (i : Nat) (fk : Rho → Store → Res PV) : Rho → Store → Res PV := fun ρ S => match ρ[i]? with
  | some (.own (.lst xs)) => (fk ρ S).bind fun k S1 => gIx (.lst xs) k S1
  | _ => .bad
theorem fe_ixOwn {i : Nat} {x : Str} {px b pos tb fb} (hb : FE X G E b tb fb) (hx : PE X (.Name x px) (tVar i)) (hp : PlainIx b := by exact fun _ _ => rfl) : FE X G E (.Subscript (.Name x px) b pos) (tOp (rIx X.K) (tVar i) tb) (mIxOwn i fb) := ⟨pe_ix ix_seq hx hb.pe hp, fun w ρ σ Q I q => by
  unfold mIxOwn at q
  split at q
  · rename_i xs hi
    obtain ⟨p, a, b, c, d, vs, r1, r2⟩ := I.own i _ hi
    refine ⟨.ref p, a, hb.sim w ρ σ _ I (Good.imp (Good.bind1 q) (fun k S1 h1 => ?_) fun _ _ _ h => h)⟩
    intro w1 u e1 s1 k1 rk
    subst e1
    obtain ⟨j, rfl⟩ : ∃ j, k = .int j := by cases k <;> first | exact h1.elim | exact ⟨_, rfl⟩
    have h1 : Good (match atI xs j with | some y => Res.ok y w1.S | none => Res.bad) (PostV X.K w Q) (ExP X.K X.mg (E σ) w) := h1
    cases e : atI xs j with
    | none => rw [e] at h1; exact h1.elim
    | some y =>
      rw [e] at h1
      obtain ⟨t, e1, e2⟩ := at_rv (r2.mono s1.pre (s1.ext I.ok.sub)) e
      exact .inl ⟨p, vs, j, t, rfl, rk, .inl (.inl (s1.keep p _ r1 c)), e1, h1 w1 t rfl s1 k1 e2⟩
  · exact q.elim⟩
/-- len(x), x a list of ours -/
def mLenOwn (i : Nat) : Rho → Store → Res PV := fun ρ S => match ρ[i]? with
  | some (.own (.lst xs)) => .ok (.int xs.length) S
  | _ => .bad
theorem fs_setV {i : Nat} {x : Str} {pos' pos e te f} (nd : X.N.Nodup) (hi : X.N[i]? = some x) (hx : Loc X.env.scope x) (he : FE X G E e te f) (hs : swapsWith e (some (.Name x pos')) pos.line X.env = pure false := by rfl) (hf : X.fn x = true ∨ X.env.scope.names.lookup x = some .local := by first | exact .inl rfl | exact .inr rfl) :
    FS X G E (.Assign [.Name x pos'] e pos) (tAsg te (gName i)) (mSet i f) := fs_set he (ps_set nd hi hx he.pe hs hf)
theorem fs_setO {i : Nat} {x : Str} {pos' pos e te f} (nd : X.N.Nodup) (hi : X.N[i]? = some x) (hx : Loc X.env.scope x) (he : FN X G E e te f) (hs : swapsWith e (some (.Name x pos')) pos.line X.env = pure false := by rfl) (hf : X.fn x = true ∨ X.env.scope.names.lookup x = some .local := by first | exact .inl rfl | exact .inr rfl) :
    FS X G E (.Assign [.Name x pos'] e pos) (tAsg te (gName i)) (mSetOwn i f) := fs_own he (ps_set nd hi hx he.pe hs hf)
theorem fs_setS {i : Nat} {x : Str} {pos' pos e te f} (nd : X.N.Nodup) (hi : X.N[i]? = some x) (hx : Loc X.env.scope x) (he : FN X G E e te f) (hs : swapsWith e (some (.Name x pos')) pos.line X.env = pure false := by rfl) (hf : X.fn x = true ∨ X.env.scope.names.lookup x = some .local := by first | exact .inl rfl | exact .inr rfl) :
    FS X G E (.Assign [.Name x pos'] e pos) (tAsg te (gName i)) (mShare i f) := fs_share he (ps_set nd hi hx he.pe hs hf)
theorem fs_app {i : Nat} {x : Str} {px pa pc pos e te f} (hx : PE X (.Name x px) (tVar i)) (he : FE X G E e te f)
    (hbase : attributeBase (.Name x px) "append" X.env (eval (.Name x px) X.env) = eval (.Name x px) X.env := by rfl)
    (hfew : ((backTo pc (starEach [e] X.env)).all (fun x => !x.1) && (backToKw pc (keywordEach [] X.env)).all (fun x => x.1.isSome) && decide ([e].length + ([] : List Keyword).length + (if ([] : List Keyword).isEmpty then 0 else 1) < 30)) = true := by rfl)
    (hline : (pa.endLine == pc.line) = true := by rfl) (hs : starEach [e] X.env = (false, eval e X.env) :: starEach [] X.env := by rfl) (hsw : swapsWith (.Call (.Attribute (.Name x px) "append" pa) [e] [] pc) none pos.line X.env = pure false := by rfl) :
    FS X G E (.Expr (.Call (.Attribute (.Name x px) "append" pa) [e] [] pc) pos) (tDrop (tBM X.K "list" rAppend (tVar i) (tCons te tNil))) (mAppend i f) :=
  fs_append he hx (ps_expr (pe_bm PySem.F.plainAttrs_list PySem.F.slot_list_append PySem.F.type_list_append mt_append hx (pa_cons he.pe pa_nil hs) hbase hfew hline hs (by rfl)) hsw)
/-- a store o[k] = u, spelled -/
abbrev SubAsg (X : Cx) (o k : Expr) (p : Pos) : Prop := ∀ u, assign (.Subscript o k p) X.env u = (do
  let a ← holding [u] (eval o X.env)
  let b ← holding [u, a] (eval k X.env)
  standAt p
  holding [u, a, b] (setItem a b u)
  release [u, a, b] [])
theorem fs_put {i : Nat} {x : Str} {px pt pos k e tk te fk f} (hx : PE X (.Name x px) (tVar i)) (hk : FE X G (fun _ => E1) k tk fk) (he : FE X G (fun _ => E1) e te f) (ha : SubAsg X (.Name x px) k pt := by intro _; rfl) (hs : swapsWithSole [.Subscript (.Name x px) k pt] e pos.line X.env = pure false := by rfl) (hw : swappedStores [.Subscript (.Name x px) k pt] e X.env = pure none := by rfl)
    (h1 : (assignEach [.Subscript (.Name x px) k pt] X.env).map (·.2) = [assign (.Subscript (.Name x px) k pt) X.env] := by rfl) :
    FS X G (fun _ => E1) (.Assign [.Subscript (.Name x px) k pt] e pos) (tAsg te (L2.gSub (tVar i) tk rSetL)) (mSetIx i fk f) := fs_setIx he hk (ps_asg he.pe (pg_sub hx hk.pe set_list ha) hs hw h1)
theorem own_def {P : Program} {w : World} {K : PySem.W.Frag} {mg : Str → Option Value} {base : Heap} {N : List Str} {qual : Str} {sc : Scope} {f : Addr} {cd : Value} {A : Around} {outer : List Env} {s : Shared} {H : Hp} {E : XK} :
    PassesOwn (model (cxOf (L2.CX P w) P w K mg base N qual sc f cd A outer s H E).prog (cxOf (L2.CX P w) P w K mg base N qual sc f cd A outer s H E).w) (cxOf (L2.CX P w) P w K mg base N qual sc f cd A outer s H E).A (cxOf (L2.CX P w) P w K mg base N qual sc f cd A outer s H E).env (cxOf (L2.CX P w) P w K mg base N qual sc f cd A outer s H E).xe :=
  passes_of rfl
theorem fs_forV {tg iter body pos wi g tb fi fg fb} (hp : PassesOwn (model X.prog X.w) X.A X.env X.xe) (hc : X.calm = true) (hi : FIt X G (fun _ => E1) tg iter wi fi) (hg : FG X G E1 tg g fg) (hb : FSs X G (fun _ => E1) body tb fb) (hs : ∀ x, foldedSetIterable iter X.env x = pure x := by intro _; rfl) : FS X G (fun _ => E1) (.For tg iter body [] pos) (tFor wi g tb) (mFor fi fg fb) :=
  fs_for hi hg hb (ps_for hp hc hi.pe hg.pe hb.pe hs)
def gAddA : PV → PV → Store → Res PV
  | .lst xs, .lst ys, S => if xs.length + ys.length ≤ sizeM then .ok (.lst (xs ++ ys)) S else .bad
  | x, y, S => gAdd x y S
def gMulA : PV → PV → Store → Res PV
  | .lst xs, .int k, S => if (decide (xs.length * k.toNat ≤ sizeM) && decide (-1000000 ≤ k) && decide (k ≤ 1000000)) = true then .ok (.lst (List.replicate k.toNat xs).flatten) S else .bad
  | .tup xs, .int k, S => if (decide (xs.length ≠ 0) && (decide (2 ≤ k) && (decide (k ≤ 1000) && decide (xs.length ≤ 1000)))) = true then .ok (.tup (List.replicate k.toNat xs).flatten) S else .bad
  | x, y, S => gMul x y S
abbrev rAddA (K : PySem.W.Frag) : R2 := fun x y H Q => rCat x y H Q ∨ (rI0 (fun i j => .int (i + j)) x y H Q ∨ ((∃ i j, x = V.str i ∧ y = .str j ∧ i.length + j.length ≤ sizeLine ∧ Q (.str (i ++ j)) H) ∨ rCatA K x y H Q))
theorem op_addA : OpR X (binaryOp .Add) (rAddA X.K) := op_cat.or (op_add.or (op_add_str.or op_catA))
theorem post_put {K w Q} {xs : List PV} {vs : List V} (k : WOk K w) (r : RVs K w.L w.hc xs vs) (h : PostV K w Q (.lst xs) w.S) : ∀ p, w.H p = none → Q (.ref p) (upd w.H p (.lst vs)) := fun p hp =>
  h (w.put p (.lst vs)) (.ref p) rfl (put_step k hp) (put_ok k hp) ⟨p, vs, rfl, put_at k hp, r.mono (List.prefix_refl _) (put_ext hp)⟩
theorem r2_addA {K mg E} : R2Sim K mg E (rAddA K) gAddA := fun w x y v u Q k rx ry g => by
  by_cases hl : ∃ xs ys, x = .lst xs ∧ y = .lst ys
  · obtain ⟨xs, ys, rfl, rfl⟩ := hl
    obtain ⟨c, g⟩ := good_if g
    obtain ⟨a, vs, rfl, r1, r2⟩ := rx
    obtain ⟨b, us, rfl, r3, r4⟩ := ry
    exact .inl ⟨a, b, vs, us, rfl, rfl, hc_lst r1, hc_lst r3, by rw [r2.len, r4.len]; exact sizeM_le c, post_put k (r2.append r4) g⟩
  · refine .inr (r2_add (mg := mg) (E := E) w x y v u Q k rx ry ?_)
    have e : gAddA x y w.S = gAdd x y w.S := by
      cases x <;> cases y <;> first | rfl | exact absurd ⟨_, _, rfl, rfl⟩ hl
    rw [← e]
    exact g
abbrev rMulA (K : PySem.W.Frag) : R2 := fun x y H Q => rRep x y H Q ∨ (rRepT K x y H Q ∨ rI CMul (fun i j => .int (i * j)) x y H Q)
theorem op_mulA : OpR X (binaryOp .Mult) (rMulA X.K) := op_rep.or (op_repT.or op_mul)
theorem r2_mulA {K mg E} : R2Sim K mg E (rMulA K) gMulA := fun w x y v u Q k rx ry g => by
  by_cases hl : ∃ xs i, x = .lst xs ∧ y = .int i
  · obtain ⟨xs, i, rfl, rfl⟩ := hl
    obtain ⟨c, g⟩ := good_if g
    simp only [Bool.and_eq_true, decide_eq_true_eq] at c
    obtain ⟨a, vs, rfl, r1, r2⟩ := rx
    exact .inl ⟨a, _, vs, rfl, ry, hc_lst r1, by omega, by omega, by rw [r2.len]; exact sizeM_le c.1.1, post_put k (r2.flat _) g⟩
  · by_cases ht : ∃ xs i, x = .tup xs ∧ y = .int i
    · obtain ⟨xs, i, rfl, rfl⟩ := ht
      obtain ⟨c, g⟩ := good_if g
      simp only [Bool.and_eq_true, decide_eq_true_eq] at c
      obtain ⟨a, vs, rfl, r1, r2⟩ := rx
      refine .inr (.inl ⟨a, _, vs, rfl, ry, hc_sqT r1, fun e => c.1 (by rw [← r2.len, e]; rfl), c.2.1, c.2.2.1, by rw [r2.len]; exact c.2.2.2, fun p hp => ?_⟩)
      exact g (w.put p (.tup (List.replicate i.toNat vs).flatten)) (.ref p) rfl (put_step k hp) (put_ok k hp) ⟨p, _, rfl, .inl (.inl (put_at k hp)), (r2.mono (List.prefix_refl _) (put_ext hp)).flat _⟩
    · refine .inr (.inr (r2_mul (mg := mg) (E := E) w x y v u Q k rx ry ?_))
      have e : gMulA x y w.S = gMul x y w.S := by
        cases x <;> cases y <;> first | rfl | exact absurd ⟨_, _, rfl, rfl⟩ hl | exact absurd ⟨_, _, rfl, rfl⟩ ht
      rw [← e]
      exact g
theorem sl_any : SlR X (fun x lo hi H Q => rSlA X.K x lo hi H Q ∨ (rSlS x lo hi H Q ∨ rSlL X.K x lo hi H Q)) := sl_tupA.or (sl_str.or sl_list)
theorem cr_sumA (hc : X.calm = true) : CallR X (.builtin "sum") (fun xs H Q => rSum X.K xs H Q ∨ rSumT X.K xs H Q) := Mir.CallR.or (cr_sum hc) (cr_sumT hc)
end
end Mir
set_option maxHeartbeats 4000000
namespace Mir
open PySem PySem.Spec PyProof.Rows L2
section
variable {X : Cx} {G : Wd} {E : EK} {E1 : XK} (K : PySem.W.Frag)
theorem kAdd (h : X.K = K := by rfl) : OpR X (binaryOp .Add) (rAddA K) := h ▸ op_addA
theorem kMul (h : X.K = K := by rfl) : OpR X (binaryOp .Mult) (rMulA K) := h ▸ op_mulA
theorem kIx (h : X.K = K := by rfl) : IxR X (rIx K) := h ▸ ix_seq
theorem kIn (h : X.K = K := by rfl) : OpR X (compareOp .In) (rIn K false) := h ▸ op_in_seq
abbrev rSlAny : V → Option Int → Option Int → Hp → VK → Prop := fun x lo hi H Q => rSlA K x lo hi H Q ∨ (rSlS x lo hi H Q ∨ rSlL K x lo hi H Q)
theorem kSl (h : X.K = K := by rfl) : SlR X (rSlAny K) := h ▸ sl_any
abbrev rLenA : List V → Hp → VK → Prop := fun xs H Q => ∃ x n, xs = [x] ∧ LenV K x H n ∧ Q (.int n) H
theorem kLen (h : X.K = K := by rfl) : CallR X (.builtin "len") (rLenA K) := h ▸ call_len
abbrev rTupleA : List V → Hp → VK → Prop := fun xs H Q => ∃ p ys, xs = [V.ref p] ∧ ((SqL K H p ys ∧ ∀ l, H l = none → Q (.ref l) (upd H l (.tup ys))) ∨ (SqT K H p ys ∧ Q (.ref p) H))
theorem kTuple (h : X.K = K := by rfl) : CallR X (.type "tuple") (rTupleA K) := h ▸ call_tuple_of
abbrev rListA : List V → Hp → VK → Prop := fun xs H Q => ∃ p ys, xs = [V.ref p] ∧ (SqL K H p ys ∨ SqT K H p ys) ∧ ∀ l, H l = none → Q (.ref l) (upd H l (.lst ys))
theorem kList (h : X.K = K := by rfl) : CallR X (.type "list") (rListA K) := h ▸ call_list_of
theorem kAll (hc : X.calm = true := by rfl) (h : X.K = K := by rfl) : CallR X (.builtin "all") (rAll K) := h ▸ cr_all hc
theorem kAny (hc : X.calm = true := by rfl) (h : X.K = K := by rfl) : CallR X (.builtin "any") (rAny K) := h ▸ cr_any hc
abbrev rSumA : List V → Hp → VK → Prop := fun xs H Q => rSum K xs H Q ∨ rSumT K xs H Q
theorem kSum (hc : X.calm = true := by rfl) (h : X.K = K := by rfl) : CallR X (.builtin "sum") (rSumA K) := h ▸ cr_sumA hc
abbrev iSeq (te : TE) : TI := fun σ H R => iList K te σ H R ∨ iTup K te σ H R
theorem it_seq {tg e te f} (h : FE X G E e te f) (hK : X.K = K := by rfl) : FIt X G E tg e (iSeq K te) (mSeqOf f) := hK ▸ fit_seq h
theorem ke_isi {T : String} {Tn : Str} {p pT pos e te f} (hm : X.mg "isinstance" = none) (hT : X.mg Tn = none) (he : FE X G E e te f) (hK : X.K = K := by rfl) (hg : Gl X "isinstance" := by rfl) (hgT : Gl X Tn := by rfl) (hb : bootBuiltins Tn = some (.type T) := by decide +kernel) (hn : Tn ≠ "__name__" := by decide) (hdb : (Tn == ("__debug__" : Str)) = false := by decide)
    (hs : starEach [e, .Name Tn pT] X.env = (false, eval e X.env) :: starEach [.Name Tn pT] X.env := by rfl) (hpl : (backTo pos (starEach [.Name Tn pT] X.env)).any (·.1) = false := by rfl) (hs2 : starEach [.Name Tn pT] X.env = (false, eval (.Name Tn pT) X.env) :: starEach [] X.env := by rfl) :
    FE X G E (.Call (.Name "isinstance" p) [e, .Name Tn pT] [] pos) (tCB (rIsi K) (tCons te (tCons (tC (.ty T)) tNil))) (mIsi T f) := hK ▸ fe_isi hm hT he hg hgT hb hn hdb hs hpl hs2
theorem ke_ixOwn {i : Nat} {x : Str} {px b pos tb fb} (hb : FE X G E b tb fb) (hx : PE X (.Name x px) (tVar i)) (hK : X.K = K := by rfl) (hp : PlainIx b := by exact fun _ _ => rfl) : FE X G E (.Subscript (.Name x px) b pos) (tOp (rIx K) (tVar i) tb) (mIxOwn i fb) := hK ▸ fe_ixOwn hb hx hp
end
/-- positional values and keywords' values, in a row -/
def kbG {α : Type} (p q : Nat) (us ws : List α) : List α := if us.length = p ∧ ws.length = q then us ++ ws else []
/-- the context stands in this program -/
structure CtxIs (X : Cx) (P : Program) (w : World) (K : PySem.W.Frag) (mg : Str → Option Value) (base : Heap) : Prop where
  p : X.prog = P
  w : X.w = w
  k : X.K = K
  m : X.mg = mg
  b : X.base = base
section
variable {X : Cx} {G : Wd} {E : EK} {E1 : XK} {P : Program} {w : World} {K : PySem.W.Frag} {mg : Str → Option Value} {base : Heap}
theorem ke_call {k : Nat} {f : Addr} {fd : FuncData} {ps : List Str} {n : Nat} {m : List PV → Store → Res PV} {x : Str} {p pos e es t fa} (F : FnG P w K mg base k f fd ps (spM K mg n m)) (hg0 : X.A.guards = some []) (hr : Room k X.A) (hm : mg x = some (.ref f)) (hk : PySem.W.keepIn K (.ref f) = true)
    (hb : Binds K fd ps []) (hx : ∀ σ, PassesAt (L2.CX P w) X σ (E σ)) (ha : FA X G E (e :: es) t fa) (c : CtxIs X P w K mg base := by exact ⟨rfl, rfl, rfl, rfl, rfl⟩) (hg : Gl X x := by rfl) (hdb : (x == ("__debug__" : Str)) = false := by decide) (he : starEach (e :: es) X.env = (false, eval e X.env) :: starEach es X.env := by rfl)
    (hpl : (backTo pos (starEach es X.env)).any (·.1) = false := by rfl) : FE X G E (.Call (.Name x p) (e :: es) [] pos) (tCallSD (spM K mg n m) [] E t) (mCall n m [] fa) := by
  obtain ⟨rfl, rfl, rfl, rfl, rfl⟩ := c
  exact fe_call F hg0 hr hm hk hb hx ha hg hdb he hpl
end
end Mir
set_option maxHeartbeats 4000000
namespace Mir
open PySem PySem.Spec PyProof.Rows L2
theorem bind1 {K : PySem.W.Frag} {x qual p : Str} {st : Stmt} {f : Addr} {fd : FuncData} (F : Fun K x qual st f fd)
    (h : ∀ (kV doc pm : Value) (an : Option Addr) (cdv ct u : Value), bindArgs (PySem.W.fnOf x qual (defArgs st) (defBody st) (defScope st) .none kV doc pm an cdv ct) ⟨[u], []⟩ = pure [(p, u)]) (s : Shared) (u : Value) : BindsTo s fd ⟨[u], []⟩ [(p, u)] := by
  obtain ⟨oc, od, kV, doc, pm, an, cdv, ct, osl, rfl, lk, hcd⟩ := F.ex
  exact .of_eq (h kV doc pm an cdv ct u)
/-- a def without defaults -/
theorem fun_of {K : PySem.W.Frag} {x qual : Str} {st : Stmt} {f : Addr} {fd : FuncData} {kws : List (Str × V)} (F : FunD K x qual (defArgs st) (defBody st) (defScope st) [] kws f fd) : Fun K x qual st f fd := by
  obtain ⟨oc, od, dV, kV, doc, pm, an, cdv, ct, osl, e, l, c, d, _⟩ := F.ex
  rcases d with ⟨_, rfl⟩ | ⟨n, _⟩
  · exact ⟨⟨oc, od, kV, doc, pm, an, cdv, ct, osl, e, l, c⟩, F.kp⟩
  · exact absurd rfl n
theorem exB {l : List Bool} (h : l.all id = true) (i : Nat) {b : Bool} (hi : l[i]? = some b) : b = true := List.all_eq_true.mp h b (List.mem_of_getElem? hi)
end Mir
set_option maxHeartbeats 4000000
namespace Mir
open PySem PySem.Spec PyProof.Rows L2
/-- what is known of the own exception class named c -/
structure XCls (K : PySem.W.Frag) (mg : Str → Option Value) (c : Str) (C fI : Addr) (flds : List Str) : Prop where
  gC : mg c = some (.ref C)
  T : OexC K C
  X : XfC K C
  iC : PySem.W.findIn K (.ref C) "__init__" = some (some (.ref fI))
  tI : PySem.W.typeIn K (.ref fI) = some (.type "function")
  no : ∀ f ∈ flds, PySem.W.findIn K (.ref C) f = some none
  cl : (PySem.W.clsIn K C).isSome = true
  ha : PySem.W.findIn K (.ref C) "__class__" = some (some (.builtin "object.__class__"))
  hn : PySem.W.specialIn K (.builtin "object.__class__") "__get__" = some (some (.builtin "getset_descriptor.__get__"))
  ht : PySem.W.takesIn K (.builtin "object.__class__") = some true
  hm : PySem.W.mroIn K C (.type "object") = some true
def oexB (K : PySem.W.Frag) (C : Addr) : Bool := match K.lookup C with
  | some ⟨.type "type", _, .cls cd, sl⟩ => (match cd.mro, sl.toList with
    | .ref C' :: bm, [_, _, _, _, some (.builtin n), _] => decide (C' = C) && (decide (n = "ValueError.__new__") && (!cd.hasDel && (cd.hasDict && HandSPX.refsVE bm)))
    | _, _ => false)
  | _ => false
theorem oexB_ok {K : PySem.W.Frag} {C : Addr} (q : oexB K C = true) : ∃ nm q N bs bm sn sub ab col dd k0 k1 k2 k3 k5, List.lookup C K = some (excClassObj nm q C N bs bm true sn sub ab col dd k0 k1 k2 k3 k5 "ValueError.__new__") ∧ HandSPX.refsVE bm = true := by
  unfold oexB at q
  split at q
  · rename_i dd cd sl ho
    split at q
    · rename_i C' bm k0 k1 k2 k3 n k5 hm hs
      simp only [Bool.and_eq_true, Bool.not_eq_true', decide_eq_true_eq] at q
      obtain ⟨rfl, rfl, hdel, hdi, ht⟩ := q
      obtain ⟨nm, bs, mro, ns, qn, hd, sn, sub, ab, col, del⟩ := cd
      dsimp only at hm hdel hdi
      subst hm hdel hdi
      have hsl : sl = #[k0, k1, k2, k3, some (.builtin "ValueError.__new__"), k5] := by
        obtain ⟨l⟩ := sl
        simp only at hs
        rw [hs]
      subst hsl
      exact ⟨nm, qn, ns, bs, bm, sn, sub, ab, col, dd, k0, k1, k2, k3, k5, ho, ht⟩
    · cases q
  · cases q
/-- the same as a Bool, of the class that stands at the global's name -/
def xclsB (K : PySem.W.Frag) (c : Str) (flds : List Str) : Bool :=
  He.eqO (PySem.W.nsIn K mainGlobals c) (some (some (.ref (He.ga K c)))) && (oexB K (He.ga K c) && (He.eqO (PySem.W.findIn K (.ref (He.ga K c)) "__setattr__") (some (some (.builtin "object.__setattr__"))) &&
  (decide (PySem.W.subIn K (.ref (He.ga K c)) (.type "BaseException") = some true) && (decide (PySem.W.typeIn K (.ref (He.ga K c)) = some (.type "type")) && (PySem.W.keepIn K (.ref (He.ga K c)) && (xfB K (He.ga K c) &&
  (He.eqO (PySem.W.findIn K (.ref (He.ga K c)) "__init__") (some (some (.ref (He.fAd K (c, some "__init__"))))) && (decide (PySem.W.typeIn K (.ref (He.fAd K (c, some "__init__"))) = some (.type "function")) &&
  ((flds.all fun f => He.eqO (PySem.W.findIn K (.ref (He.ga K c)) f) (some none)) && ((PySem.W.clsIn K (He.ga K c)).isSome && (He.eqO (PySem.W.findIn K (.ref (He.ga K c)) "__class__") (some (some (.builtin "object.__class__"))) &&
  (He.eqO (PySem.W.specialIn K (.builtin "object.__class__") "__get__") (some (some (.builtin "getset_descriptor.__get__"))) && (decide (PySem.W.takesIn K (.builtin "object.__class__") = some true) && decide (PySem.W.mroIn K (He.ga K c) (.type "object") = some true))))))))))))))
theorem xcls_ok {K : PySem.W.Frag} {h : Heap} {mg : Str → Option Value} {c : Str} {flds : List Str} (X : K.In h) (G : h.Ns mainGlobals mg) (q : xclsB K c flds = true) : XCls K mg c (He.ga K c) (He.fAd K (c, some "__init__")) flds := by
  obtain ⟨h1, q⟩ := He.ba q
  obtain ⟨h2, q⟩ := He.ba q
  obtain ⟨h3, q⟩ := He.ba q
  obtain ⟨h4, q⟩ := He.ba q
  obtain ⟨h5, q⟩ := He.ba q
  obtain ⟨h6, q⟩ := He.ba q
  obtain ⟨h7, q⟩ := He.ba q
  obtain ⟨h8, q⟩ := He.ba q
  obtain ⟨h9, q⟩ := He.ba q
  obtain ⟨h10, q⟩ := He.ba q
  obtain ⟨h11, q⟩ := He.ba q
  obtain ⟨h12, q⟩ := He.ba q
  obtain ⟨h13, q⟩ := He.ba q
  obtain ⟨h14, h15⟩ := He.ba q
  exact ⟨PySem.W.mg_of X G (He.eqO_ok h1), ⟨oexB_ok h2, He.eqO_ok h3, of_decide_eq_true h4, of_decide_eq_true h5, h6⟩, xfB_ok h7, He.eqO_ok h8, of_decide_eq_true h9, fun f hf => He.eqO_ok (List.all_eq_true.mp h10 f hf), h11, He.eqO_ok h12, He.eqO_ok h13, of_decide_eq_true h14, of_decide_eq_true h15⟩
def spI1 (K : PySem.W.Frag) (f : Str) : Sp := fun vs H Q _ => ∃ (a C : Addr) (y : V), vs = [.ref a, y] ∧ OexC K C ∧ PySem.W.findIn K (.ref C) f = some none ∧ H a = some (exo a C none) ∧ ∀ dx, H dx = none → dx ≠ a → Q .non (upd (upd H dx (exd dx [(f, y)])) a (exo a C (some dx)))
theorem ok_init1 {P : Program} {w : World} {K : PySem.W.Frag} {mg : Str → Option Value} {base : Heap} {qual fld sf nf : Str} {st : Stmt} {f : Addr} {fd : FuncData} {ap : Pos} {np vp sp : Pos} {k : Nat} (F : Fun K "__init__" qual st f fd) (S : FnScope [sf, nf] [sf, nf] (defScope st))
    (hb : defBody st = [.Assign [.Attribute (.Name sf np) fld ap] (.Name nf vp) sp])
    (h0 : ∀ (X : Cx) (N : List Str), X.N = [sf, nf] → X.env.scope = defScope st → True := by intros; trivial)
    (pv0 : ∀ (cdv : Value) (A : Around) (outer : List Env) (s : Shared) (H : Hp) (E : XK), PE (cxOf (L2.CX P w) P w K mg base [sf, nf] qual (defScope st) f cdv A outer s H E) (.Name sf np) (tVar 0))
    (pv1 : ∀ (cdv : Value) (A : Around) (outer : List Env) (s : Shared) (H : Hp) (E : XK), PE (cxOf (L2.CX P w) P w K mg base [sf, nf] qual (defScope st) f cdv A outer s H E) (.Name nf vp) (tVar 1))
    (hs : ∀ (X : Cx), swapsWith (.Name nf vp) (some (.Attribute (.Name sf np) fld ap)) sp.line X.env = pure false) :
    FnOk P w K mg base (L2.CX P w) (k + 1) f fd [sf, nf] (spI1 K fld) := by
  refine Fun.okX F S (fun vs H Q E ⟨a, C, y, e, _⟩ => by rw [e]; rfl) fun cdv A outer s H vs Q E hr ⟨a, C, y, e, T, no, hH, q⟩ => ?_
  subst e
  refine ⟨_, by rw [hb]; exact pss_one (ps_ost (pv0 cdv A outer s H E) (pv1 cdv A outer s H E) (hs _)), ?_⟩
  exact ⟨y, rfl, .ref a, rfl, a, C, rfl, T, no, .inl ⟨hH, q⟩⟩
theorem passes_no {X : Cx} : Passes (L2.CX X.prog X.w) X (fun _ _ _ => False) := fun _ _ _ _ _ _ _ ⟨_, _, _, _, _, _, _, _, _, _, _, _, z⟩ => z.elim
def mRaise (c : Str) (flds : List Str) (fa : Rho → Store → Res (List PV)) : Rho → Store → Res Out := fun ρ S => (fa ρ S).bind fun xs S1 => if xs.length = flds.length then .exc c (flds.zip xs) S1 else .bad
section
variable {X : Cx} {G : Wd} {E : EK}
theorem fs_raise1 {c fld : Str} {C fI : Addr} {k : Nat} {fd : FuncData} {ps : List Str} {p pos pos' : Pos} {e : Expr} {ta fa} (T : XCls X.K X.mg c C fI [fld]) (F : FnOk X.prog X.w X.K X.mg X.base (L2.CX X.prog X.w) k fI fd ps (spI1 X.K fld)) (hr : Room (k + 1) X.A) (hb : Binds X.K fd ps [])
    (hc : X.calm = true) (tk : Takes X fun c d σ H => E σ c d H) (ha : FA X G E [e] ta fa) (hg : Gl X c := by rfl) (hdb : (c == ("__debug__" : Str)) = false := by decide)
    (he : starEach [e] X.env = (false, eval e X.env) :: starEach [] X.env := by rfl) (hpl : (backTo pos (starEach [] X.env)).any (·.1) = false := by rfl) :
    FS X G E (.Raise (some (.Call (.Name c p) [e] [] pos)) none pos') (fun _ σ H => tMkO C (spI1 X.K fld) [] ta σ H fun cls d H' => E σ cls d H') (mRaise c [fld] fa) :=
  ⟨ps_raise (W := fun c d σ H => E σ c d H) hc tk (pmk_oex T.T T.iC T.tI F hr hb .nil passes_no hg T.gC ha.pe hdb he hpl), fun w ρ σ D I q => by
  refine ha.sim w ρ σ _ I (Good.imp (Good.bind1 q) (fun xs S1 h1 => ?_) fun _ _ _ h => h.step I.stp I.gok I.ok)
  intro w1 vs e1 s1 k1 r1
  subst e1
  obtain ⟨hl, h1⟩ := good_if h1
  match xs, hl with
  | [x], _ =>
    obtain ⟨v, rfl, rv⟩ := vs1 r1
    refine ⟨by simp, fun a ha => ⟨a, C, v, rfl, T.T, T.no fld List.mem_cons_self, upd_same, fun dx h1x hne => ?_⟩⟩
    have hdx : w1.H dx = none := by rw [upd_ne hne] at h1x; exact h1x
    refine ⟨rfl, dx, [(fld, v)], upd_same, ?_, hdx, ?_⟩
    · rw [upd_ne hne, upd_same]
    · have eq : upd (del (upd (upd (upd w1.H a (exo a C none)) dx (exd dx [(fld, v)])) a (exo a C (some dx))) a) dx (HO.xd [(fld, v)]) = upd w1.H dx (HO.xd [(fld, v)]) := by
        funext b
        by_cases e1 : b = dx
        · subst e1; rw [upd_same, upd_same]
        · rw [upd_ne e1, upd_ne e1]
          by_cases e2 : b = a
          · subst e2; rw [del_same, ha]
          · rw [del_ne e2, upd_ne e2, upd_ne e1, upd_ne e2]
      rw [eq]
      have I1 := I.step s1 k1
      exact h1 (w1.put dx (.xd [(fld, v)])) C dx [(fld, v)] rfl (I1.stp.tr (put_step k1 hdx) I1.gok k1) (put_ok k1 hdx) T.gC (put_at k1 hdx) ⟨v, [], rfl, rv.mono (List.prefix_refl _) (put_ext hdx), rfl⟩⟩
/-- the exception that the suite holds: at a, of the class cls, with the dict d -/
def PinOk (mg : Str → Option Value) (G : Wd) (a : Addr) (cls : Value) (d : Option Addr) : Prop := ∃ d0 P, G.pin = some (a, d0, P) ∧ ∀ c, P c → d = some d0 ∧ ∃ C, cls = .ref C ∧ mg c = some (.ref C)
theorem pinOk_some (mg : Str → Option Value) (a : Addr) (cls : Value) (d : Option Addr) : ∃ G, PinOk mg G a cls d := ⟨⟨[], [], fun _ => none, [], some (a, 0, fun _ => False)⟩, 0, _, rfl, fun _ h => h.elim⟩
theorem lookup_mem {c : Str} {b : Bool} : ∀ {l : List (Str × Bool)}, l.lookup c = some b → (c, b) ∈ l
  | [], h => by simp at h
  | (d, x) :: l, h => by
    rw [List.lookup_cons] at h
    by_cases e : c == d
    · rw [e] at h
      have : c = d := beq_iff_eq.mp e
      subst this
      simp at h
      subst h
      exact List.mem_cons_self
    · rw [Bool.not_eq_true] at e
      rw [e] at h
      exact List.mem_cons_of_mem _ (lookup_mem h)
variable {a : Addr} {oe : Obj} {cls : Value} {d : Option Addr} {pn : List (Addr × Obj)}
def tFld (K : PySem.W.Frag) (a : Addr) (cls : Value) (d : Option Addr) (f : Str) (te : TE) : TE := fun σ H Q => ∃ C, XfC K C ∧ PySem.W.findIn K (.ref C) f = some none ∧ tXf a cls d C f te σ H Q
/-- what isinstance asks of the class at C -/
structure IsC (K : PySem.W.Frag) (C : Addr) : Prop where
  cl : (PySem.W.clsIn K C).isSome = true
  hg : PySem.W.findIn K (.ref C) "__getattribute__" = some (some (.builtin "BaseException.__getattribute__"))
  hk : PySem.W.findIn K (.ref C) "__getattr__" = some none
  hs : PySem.W.subIn K (.ref C) (.type "BaseException") = some true
  ha : PySem.W.findIn K (.ref C) "__class__" = some (some (.builtin "object.__class__"))
  hn : PySem.W.specialIn K (.builtin "object.__class__") "__get__" = some (some (.builtin "getset_descriptor.__get__"))
  ht : PySem.W.takesIn K (.builtin "object.__class__") = some true
  hm : PySem.W.mroIn K C (.type "object") = some true
theorem XCls.is {K mg c C fI flds} (T : XCls K mg c C fI flds) : IsC K C := ⟨T.cl, T.X.ga, T.X.gg, T.T.exC, T.ha, T.hn, T.ht, T.hm⟩
/-- what a class's name in the text stands for -/
structure ClsN (X : Cx) (Tn : Str) (c : V) (cv : Value) : Prop where
  k : ClsV c cv
  pe : ∀ pT, PE X (.Name Tn pT) (tC c)
/-- a tuple of classes -/
def tCs : List V → TA
  | [] => tNil
  | c :: cs => tCons (tC c) (tCs cs)
theorem tCs_ok {σ : L2.St} : ∀ {cs : List V} {H : Hp} {Q : List V → Hp → Prop}, Q cs H → tCs cs σ H Q
  | [], _, _, h => h
  | c :: cs, H, Q, h => tCs_ok (cs := cs) (Q := fun vs H2 => Q (c :: vs) H2) h
/-- the classes of a tuple in the text -/
inductive ClsNs (X : Cx) : List Expr → List V → List Value → Prop
  | nil : ClsNs X [] [] []
  | cons {Tn : Str} {pT : Pos} {es : List Expr} {c : V} {cv : Value} {cs : List V} {us : List Value} (h : ClsN X Tn c cv) (r : ClsNs X es cs us) (hs : starEach (.Name Tn pT :: es) X.env = (false, eval (.Name Tn pT) X.env) :: starEach es X.env := by rfl) : ClsNs X (.Name Tn pT :: es) (c :: cs) (cv :: us)
theorem ClsNs.pa {es cs us} (h : ClsNs X es cs us) : PA X es (tCs cs) := by
  induction h with
  | nil => exact pa_nil
  | cons h r hs ih => exact pa_cons (h.pe _) ih hs
theorem ClsNs.pr {es cs us} (h : ClsNs X es cs us) : Paired ClsV cs us := by
  induction h with
  | nil => exact .nil
  | cons h r hs ih => exact .cons h.k ih
theorem ClsNs.len {es cs us} (h : ClsNs X es cs us) : cs.length = es.length := by
  induction h with
  | nil => rfl
  | cons h r hs ih => simp [ih]
end
end Mir
set_option maxHeartbeats 4000000
namespace Mir
open PySem PySem.Spec PyProof.Rows L2
def gEqDeep (neg : Bool) (x y : PV) (S : Store) : Res PV := match toD x, toD y with
  | some d, some e => if (SeqAt.shaped d && SeqAt.shaped e) = true then .ok (.bl (if neg then !PyData.eqv d e else PyData.eqv d e)) S else .bad
  | _, _ => .bad
/-- == of data; two texts are asked as such -/
def gEqD (neg : Bool) : PV → PV → Store → Res PV
  | .str a, .str b, S => .ok (.bl (if neg then !decide (a = b) else decide (a = b))) S
  | x, y, S => gEqDeep neg x y S
abbrev rEqE (K : PySem.W.Frag) : R2 := fun x y H Q => rEq x y H Q ∨ rEqD K x y H Q
abbrev rNeE (K : PySem.W.Frag) : R2 := fun x y H Q => rNe x y H Q ∨ rNeD K x y H Q
section
variable {K : PySem.W.Frag} {mg : Str → Option Value} {E : XK}
theorem r2_eqDeep : R2Sim K mg E (rEqD K) (gEqDeep false) := fun w x y v u Q k rx ry g => by
  unfold gEqDeep at g
  split at g
  · rename_i d e h1 h2
    obtain ⟨c, g⟩ := good_if g
    obtain ⟨c1, c2⟩ := He.ba c
    exact ⟨d, e, toD_dp (fun a o h => (cut_some h).2) h1 rx, toD_dp (fun a o h => (cut_some h).2) h2 ry, c1, c2, g w _ rfl (WStep.refl k.sub) k rfl⟩
  · exact g.elim
theorem r2_neDeep : R2Sim K mg E (rNeD K) (gEqDeep true) := fun w x y v u Q k rx ry g => by
  unfold gEqDeep at g
  split at g
  · rename_i d e h1 h2
    obtain ⟨c, g⟩ := good_if g
    obtain ⟨c1, c2⟩ := He.ba c
    exact ⟨d, e, toD_dp (fun a o h => (cut_some h).2) h1 rx, toD_dp (fun a o h => (cut_some h).2) h2 ry, c1, c2, g w _ rfl (WStep.refl k.sub) k rfl⟩
  · exact g.elim
theorem gEqD_else {neg : Bool} {x y : PV} {S : Store} (h : ¬ ∃ a b, x = .str a ∧ y = .str b) : gEqD neg x y S = gEqDeep neg x y S := by
  cases x <;> cases y <;> first | rfl | exact absurd ⟨_, _, rfl, rfl⟩ h
theorem gEq_str {neg : Bool} {a b : Str} {S : Store} : gEqD neg (.str a) (.str b) S = gEq neg (.str a) (.str b) S := by
  unfold gEq
  simp only [toV, scal, if_pos, V.str.injEq]
  cases neg <;> rfl
theorem r2_eqD : R2Sim K mg E (rEqE K) (gEqD false) := fun w x y v u Q k rx ry g => by
  by_cases h : ∃ a b, x = .str a ∧ y = .str b
  · obtain ⟨a, b, rfl, rfl⟩ := h
    rw [gEq_str] at g
    exact .inl (r2_eq (K := K) (mg := mg) (E := E) w _ _ v u Q k rx ry g)
  · rw [gEqD_else h] at g
    exact .inr (r2_eqDeep (mg := mg) (E := E) w x y v u Q k rx ry g)
theorem r2_neD : R2Sim K mg E (rNeE K) (gEqD true) := fun w x y v u Q k rx ry g => by
  by_cases h : ∃ a b, x = .str a ∧ y = .str b
  · obtain ⟨a, b, rfl, rfl⟩ := h
    rw [gEq_str] at g
    exact .inl (r2_ne (K := K) (mg := mg) (E := E) w _ _ v u Q k rx ry g)
  · rw [gEqD_else h] at g
    exact .inr (r2_neDeep (mg := mg) (E := E) w x y v u Q k rx ry g)
/-- x in y, data of any depth: y a list or a tuple -/
def gInD (neg : Bool) (x y : PV) (S : Store) : Res PV := match toD x, toD y with
  | some d, some (.list ds) => if (SeqAt.shaped d && SeqAt.shaped (.list ds)) = true then .ok (.bl (if neg then !(ds.any fun z => PyData.eqv z d) else ds.any fun z => PyData.eqv z d)) S else .bad
  | some d, some (.tuple ds) => if (SeqAt.shaped d && SeqAt.shaped (.tuple ds)) = true then .ok (.bl (if neg then !(ds.any fun z => PyData.eqv z d) else ds.any fun z => PyData.eqv z d)) S else .bad
  | _, _ => .bad
def rInT (K : PySem.W.Frag) (neg : Bool) : R2 := fun x y H Q => ∃ d ds, Dp K H x d ∧ Dp K H y (.tuple ds) ∧ SeqAt.shaped d = true ∧ SeqAt.shaped (.tuple ds) = true ∧ Q (.bl (if neg then !(ds.any fun z => PyData.eqv z d) else ds.any fun z => PyData.eqv z d)) H
theorem op_inT {X : Cx} (hu : X.A.units + 65 < cLine) : OpR X (compareOp .In) (rInT X.K false) := fun pins s σ H x y v u Q I rx ry ⟨d, ds, hd, he, sd, se, q⟩ => by
  obtain ⟨as, r1⟩ := Dp.reads I d x v hd rx
  obtain ⟨bs, r2⟩ := Dp.reads I (.tuple ds) y u he ry
  exact SeqAt.in_tuple_reads r2 r1 (by have := SeqAt.canLay_of_shaped se; simpa only [PyData.canLay0] using this) (SeqAt.canLay_of_shaped sd) (room_in_shaped sd hu) ⟨.bl _, H, I, rfl, q⟩
abbrev rInA (K : PySem.W.Frag) : R2 := fun x y H Q => rInD K x y H Q ∨ rInT K false x y H Q
theorem op_inA {X : Cx} (hu : X.A.units + 65 < cLine) : OpR X (compareOp .In) (rInA X.K) := (op_inD hu).or (op_inT hu)
theorem r2_inA : R2Sim K mg E (rInA K) (gInD false) := fun w x y v u Q k rx ry g => by
  unfold gInD at g
  split at g
  · rename_i d ds h1 h2
    obtain ⟨c, g⟩ := good_if g
    obtain ⟨c1, c2⟩ := He.ba c
    exact .inl ⟨d, ds, toD_dp (fun a o h => (cut_some h).2) h1 rx, toD_dp (fun a o h => (cut_some h).2) h2 ry, c1, c2, g w _ rfl (WStep.refl k.sub) k rfl⟩
  · rename_i d ds h1 h2
    obtain ⟨c, g⟩ := good_if g
    obtain ⟨c1, c2⟩ := He.ba c
    exact .inr ⟨d, ds, toD_dp (fun a o h => (cut_some h).2) h1 rx, toD_dp (fun a o h => (cut_some h).2) h2 ry, c1, c2, g w _ rfl (WStep.refl k.sub) k rfl⟩
  · exact g.elim
end
mutual
def pvB (K : PySem.W.Frag) : PV → Value → Bool
  | .non, .none => true
  | .bl b, .bool c => b == c
  | .int i, .int j _ => decide (i = j)
  | .str x, .str y _ => decide (x = y)
  | .tup xs, .ref a => (match K.lookup a with
    | some ⟨.type c, _, .seq its _, _⟩ => decide (c = "tuple") && (decide (its.size ≤ sizeLine) && pvBs K xs its.toList)
    | _ => false)
  | .fn x, .ref a => decide (a = He.ga K x)
  | _, _ => false
def pvBs (K : PySem.W.Frag) : List PV → List Value → Bool
  | [], [] => true
  | x :: xs, u :: us => pvB K x u && pvBs K xs us
  | _, _ => false
end
mutual
theorem pvB_ok {K : PySem.W.Frag} : ∀ {p : PV} {u : Value}, pvB K p u = true → ∃ v, RelV v u ∧ ∀ L Hc, RV K L Hc p v
  | .non, u, h => by
    cases u <;> simp only [pvB] at h <;> first | (cases h; done) | exact ⟨.non, rfl, fun _ _ => rfl⟩
  | .bl b, u, h => by
    cases u with
    | bool c =>
      simp only [pvB] at h
      rw [eq_of_beq h]
      exact ⟨.bl c, rfl, fun _ _ => rfl⟩
    | _ => simp only [pvB] at h; cases h
  | .int i, u, h => by
    cases u with
    | int c t =>
      simp only [pvB] at h
      rw [of_decide_eq_true h]
      exact ⟨.int c, ⟨t, rfl⟩, fun _ _ => rfl⟩
    | _ => simp only [pvB] at h; cases h
  | .str i, u, h => by
    cases u with
    | str c t =>
      simp only [pvB] at h
      rw [of_decide_eq_true h]
      exact ⟨.str c, ⟨t, rfl⟩, fun _ _ => rfl⟩
    | _ => simp only [pvB] at h; cases h
  | .tup xs, u, h => by
    cases u with
    | ref a =>
      simp only [pvB] at h
      cases q : K.lookup a with
      | none => rw [q] at h; cases h
      | some o =>
        obtain ⟨oc, od, dt, osl⟩ := o
        rw [q] at h
        cases oc with
        | type c =>
          cases dt with
          | seq its n =>
            obtain ⟨h1, h2⟩ := He.ba (show (decide (c = "tuple") && (decide (its.size ≤ sizeLine) && pvBs K xs its.toList)) = true from h)
            obtain ⟨h3, h4⟩ := He.ba h2
            obtain ⟨vs, e1, e2⟩ := pvBs_ok h4
            exact ⟨.ref a, rfl, fun L Hc => ⟨a, vs, rfl, .inr ⟨_, its, n, q, congrArg Value.type (of_decide_eq_true h1), rfl, of_decide_eq_true h3, e1⟩, e2 L Hc⟩⟩
          | _ => cases h
        | _ => cases dt <;> cases h
    | _ => simp only [pvB] at h; cases h
  | .lst _, u, h => by cases u <;> simp only [pvB] at h <;> cases h
  | .cl _, u, h => by cases u <;> simp only [pvB] at h <;> cases h
  | .obj _, u, h => by cases u <;> simp only [pvB] at h <;> cases h
  | .dk _ _, u, h => by cases u <;> simp only [pvB] at h <;> cases h
  | .ins _ _ _, u, h => by cases u <;> simp only [pvB] at h <;> cases h
  | .fn x, u, h => by
    cases u with
    | ref a =>
      simp only [pvB] at h
      rw [of_decide_eq_true h]
      exact ⟨.ref (He.ga K x), rfl, fun _ _ => rfl⟩
    | _ => simp only [pvB] at h; cases h
theorem pvBs_ok {K : PySem.W.Frag} : ∀ {xs : List PV} {us : List Value}, pvBs K xs us = true → ∃ vs, Vals vs us ∧ ∀ L Hc, RVs K L Hc xs vs
  | [], us, h => by
    cases us with
    | nil => exact ⟨[], .nil, fun _ _ => rfl⟩
    | cons u us => simp only [pvBs] at h; cases h
  | x :: xs, us, h => by
    cases us with
    | nil => simp only [pvBs] at h; cases h
    | cons u us =>
      simp only [pvBs] at h
      obtain ⟨h1, h2⟩ := He.ba h
      obtain ⟨v, e1, e2⟩ := pvB_ok h1
      obtain ⟨vs, e3, e4⟩ := pvBs_ok h2
      exact ⟨v :: vs, .cons e1 e3, fun L Hc => ⟨v, vs, rfl, e2 L Hc, e4 L Hc⟩⟩
end
/-- the module's name x stands for p -/
def cstB (K : PySem.W.Frag) (x : Str) (p : PV) : Bool := match PySem.W.nsIn K mainGlobals x with
  | some (some u) => pvB K p u
  | _ => false
theorem cst_ok {K : PySem.W.Frag} {h : Heap} {mg : Str → Option Value} (X : K.In h) (G : h.Ns mainGlobals mg) {x : Str} {p : PV} (c : cstB K x p = true) : ∃ v u, mg x = some u ∧ RelV v u ∧ ∀ L Hc, RV K L Hc p v := by
  unfold cstB at c
  cases e : PySem.W.nsIn K mainGlobals x with
  | none => rw [e] at c; cases c
  | some o =>
    rw [e] at c
    cases o with
    | none => cases c
    | some u =>
      obtain ⟨v, h1, h2⟩ := pvB_ok (K := K) (p := p) (u := u) c
      exact ⟨v, u, PySem.W.mg_of X G e, h1, h2⟩
def mKIn (neg : Bool) (tbl : List (Str × PV)) (f : Rho → Store → Res PV) : Rho → Store → Res PV := fun ρ S => (f ρ S).bind fun x S1 => match x with
  | .str z => .ok (.bl (if neg then !(tbl.lookup z).isSome else (tbl.lookup z).isSome)) S1
  | _ => .bad
def mKGet (tbl : List (Str × PV)) (f : Rho → Store → Res PV) : Rho → Store → Res PV := fun ρ S => (f ρ S).bind fun x S1 => match x with
  | .str z => (match tbl.lookup z with
    | some p => .ok p S1
    | none => .bad)
  | _ => .bad
section
variable {X : Cx} {G : Wd} {E : EK} (K : PySem.W.Frag) (W : World)
end
def gUn (n : Nat) (g : List PV → Rho → Store → Res Rho) : PV → Rho → Store → Res Rho
  | .tup xs, ρ, S => if xs.length = n then g xs ρ S else .bad
  | .pt xs, ρ, S => if xs.length = n then g xs ρ S else .bad
  | .lst xs, ρ, S => if xs.length = n then g xs ρ S else .bad
  | _, _, _ => .bad
def gUnR (K : PySem.W.Frag) (n : Nat) (t : TGs) : TG := fun v σ H Q => L2.gTup K n t v σ H Q ∨ L2.gLst K n t v σ H Q
theorem fg_un {X : Cx} {G : Wd} {E : XK} {es k t pos f} {n : Nat} (h : FGs X G E es t f) (p1 : PG X (.Tuple es k pos) (L2.gTup X.K n t)) (p2 : PG X (.Tuple es k pos) (L2.gLst X.K n t)) : FG X G E (.Tuple es k pos) (gUnR X.K n t) (gUn n f) :=
  ⟨⟨fun pins s σ H v u Q I r q => q.elim (p1.run pins s σ H v u Q I r) (p2.run pins s σ H v u Q I r)⟩, fun w ρ σ x v Q I r q => by
  cases x with
  | tup xs =>
    obtain ⟨a, vs, rfl, r1, r2⟩ := r
    obtain ⟨hn, q⟩ := good_if q
    exact .inl ⟨a, vs, rfl, hc_sqT r1, r2.len.trans hn, h.sim w ρ σ xs vs Q I r2 q⟩
  | pt xs =>
    obtain ⟨a, vs, rfl, r1, r2⟩ := r
    obtain ⟨hn, q⟩ := good_if q
    exact .inl ⟨a, vs, rfl, hc_sqT (plT_sqT r1), r2.len.trans hn, h.sim w ρ σ xs vs Q I r2 q⟩
  | lst xs =>
    obtain ⟨a, vs, rfl, r1, r2⟩ := r
    obtain ⟨hn, q⟩ := good_if q
    exact .inr ⟨a, vs, rfl, .inl (.inl (hc_lst r1)), r2.len.trans hn, h.sim w ρ σ xs vs Q I r2 q⟩
  | _ => exact q.elim⟩
def idxOf (us : List V) (u : V) : Option Nat := us.findIdx? fun z => eqV z u
def gIndex : PV → List PV → Store → Res PV
  | .lst xs, [y], S => match xs.mapM toV, toV y with
    | some us, some u => match idxOf us u with
      | some j => .ok (.int j) S
      | none => .bad
    | _, _ => .bad
  | _, _, _ => .bad
def mIndex (f : Rho → Store → Res PV) (fa : Rho → Store → Res (List PV)) : Rho → Store → Res PV := fun ρ S => (f ρ S).bind fun x S1 => match x with
  | .lst xs => (fa ρ S1).bind fun ys S2 => gIndex (.lst xs) ys S2
  | _ => .bad
theorem idxOf_ok {u : V} : ∀ {us : List V} {j : Nat}, idxOf us u = some j → ∃ z, us[j]? = some z ∧ eqV z u = true ∧ ∀ (m : Nat) z', m < j → us[m]? = some z' → eqV z' u = false := fun {us j} h => by
  unfold idxOf at h
  obtain ⟨hj, h1, h2⟩ := List.findIdx?_eq_some_iff_getElem.mp h
  refine ⟨us[j], List.getElem?_eq_getElem hj, h1, fun m z' hm e => ?_⟩
  obtain ⟨hm2, rfl⟩ := List.getElem?_eq_some_iff.mp e
  simpa using h2 m hm
theorem sim_index {K : PySem.W.Frag} {mg : Str → Option Value} {G : Wd} {E : EK} {te ta f fa} (he : ESim K mg G E te f) (ha : ASim K mg G E ta fa) : ESim K mg G E (tBM K "list" (rIndex K) te ta) (mIndex f fa) := fun w ρ σ Q I q => by
  refine he w ρ σ _ I (Good.imp (Good.bind1 q) (fun y S1 q1 => ?_) fun _ _ _ h => h)
  intro w1 v e1 s1 k1 r1
  subst e1
  cases y <;> first | exact q1.elim | skip
  rename_i xs
  obtain ⟨a, vs, rfl, g1, g2⟩ := r1
  have I1 := I.step s1 k1
  refine ⟨.inl ⟨rfl, vs, .inl (.inl (hc_lst g1))⟩, ha w1 ρ σ _ I1 (Good.imp (Good.bind1 q1) (fun ys S2 q2 => ?_) fun _ _ _ h => h.step s1 I.ok k1)⟩
  intro w2 us e2 s2 k2 r2
  subst e2
  match ys, q2, r2 with
  | [y], q2, r2 =>
    obtain ⟨v, rfl, rv⟩ := vs1 r2
    have q2 : Good (match xs.mapM toV, toV y with
      | some us, some u => (match idxOf us u with
        | some j => Res.ok (PV.int j) w2.S
        | none => Res.bad)
      | _, _ => Res.bad) (PostV K w Q) (ExP K mg (E σ) w) := q2
    split at q2
    · rename_i us u h1 h2
      split at q2
      · rename_i j hj
        obtain ⟨z, z1, z2, z3⟩ := idxOf_ok hj
        have e3 := toVs_rv h1 (g2.mono s2.pre (s2.ext k1.sub))
        have e4 := toV_rv h2 rv
        subst e3 e4
        exact ⟨a, _, _, j, z, rfl, rfl, .inl (.inl (hc_lst (s2.ext k1.sub _ _ g1))), toV_flat h2, toVs_flat h1, z1, z2, z3, q2 w2 _ rfl (s1.tr s2 I.ok k1) k2 rfl⟩
      · exact q2.elim
    · exact q2.elim
  | [], q2, _ => exact q2.elim
  | _ :: _ :: _, q2, _ => exact q2.elim
section
variable {X : Cx} {G : Wd} {E : EK} (K : PySem.W.Frag)
theorem fe_index {o e : Expr} {to f ta fa} {ap cp : Pos} (ho : FE X G E o to f) (ha : FA X G E [e] ta fa) (hK : X.K = K := by rfl)
    (hbase : attributeBase o "index" X.env (eval o X.env) = eval o X.env := by rfl)
    (hfew : ((backTo cp (starEach [e] X.env)).all (fun x => !x.1) && (backToKw cp (keywordEach [] X.env)).all (fun x => x.1.isSome) && decide ([e].length + ([] : List Keyword).length + (if ([] : List Keyword).isEmpty then 0 else 1) < 30)) = true := by rfl)
    (hline : (ap.endLine == cp.line) = true := by rfl) (hs : starEach [e] X.env = (false, eval e X.env) :: starEach [] X.env := by rfl) :
    FE X G E (.Call (.Attribute o "index" ap) [e] [] cp) (tBM K "list" (rIndex K) to ta) (mIndex f fa) := by
  subst hK
  exact ⟨pe_bm PySem.F.plainAttrs_list PySem.F.slot_list_index PySem.F.type_list_index mt_index ho.pe ha.pe hbase hfew hline hs (by rfl), sim_index ho.sim ha.sim⟩
end
end Mir
set_option maxHeartbeats 4000000
namespace Mir
open PySem PySem.Spec PyProof.Rows L2
section
variable {X : Cx} {G : Wd} {E : EK}
theorem RVs.dropLast {K L Hc} {xs : List PV} {vs : List V} (h : RVs K L Hc xs vs) : RVs K L Hc xs.dropLast vs.dropLast := by
  rw [List.dropLast_eq_take, List.dropLast_eq_take, h.len]
  exact h.take _
/-- x.extend(e), x a list of ours, e a list -/
def mExtend (i : Nat) (f : Rho → Store → Res PV) : Rho → Store → Res Out := fun ρ S => match ρ[i]? with
  | some (.own (.lst xs)) => (f ρ S).bind fun y S1 => match y with
    | .lst ys => if xs.length + ys.length ≤ sizeM then .ok (.nx (ρ.set i (.own (.lst (xs ++ ys))))) S1 else .bad
    | _ => .bad
  | _ => .bad
theorem sim_extend {K : PySem.W.Frag} {mg : Str → Option Value} {i : Nat} {te f} (he : ESim K mg G E te f) : SSim K mg G E (tDrop (tBM K "list" rExtend (tVar i) (tCons te tNil))) (mExtend i f) := fun w ρ σ D I q => by
  unfold mExtend at q
  split at q
  · rename_i o hi
    obtain ⟨p, a, b, c, d, r⟩ := I.own i _ hi
    · obtain ⟨vs, r1, r2⟩ := r
      refine ⟨.ref p, a, .inl ⟨rfl, vs, .inl (.inl r1)⟩, he w ρ σ _ I (Good.imp (Good.bind1 q) (fun y S1 h1 => ?_) fun _ _ _ h => h.step I.stp I.gok I.ok)⟩
      intro w1 v e1 s1 k1 rv
      cases y <;> first | exact h1.elim | skip
      rename_i ys
      obtain ⟨hsz, h1⟩ := good_if h1
      obtain ⟨b2, us, rfl, g1, g2⟩ := rv
      have I1 := I.step s1 k1
      have gp : w1.H p = some (.lst vs) := s1.keep p _ r1 c
      have hO := s1.omono p b
      have hL : p ∉ w1.L := fun z => by
        rcases s1.lset p z with y | y
        · exact c y
        · rw [r1] at y; cases y
      refine ⟨p, b2, vs, us, rfl, rfl, gp, hc_lst g1, by rw [r2.len, g2.len]; exact sizeM_le hsz, ?_⟩
      exact h1 (w1.wr p (.lst (vs ++ us))) σ e1 ((s1.v I.ok.sub).trans (wr_v hO)) (I1.wrOwn hi a hO hL d ⟨_, rfl, (r2.mono s1.pre (s1.ext I.ok.sub)).append g2⟩)
  · exact q.elim
theorem fs_extend {i : Nat} {x : Str} {px pa pc pos e te f} (hx : PE X (.Name x px) (tVar i)) (he : FE X G E e te f)
    (hbase : attributeBase (.Name x px) "extend" X.env (eval (.Name x px) X.env) = eval (.Name x px) X.env := by rfl)
    (hfew : ((backTo pc (starEach [e] X.env)).all (fun x => !x.1) && (backToKw pc (keywordEach [] X.env)).all (fun x => x.1.isSome) && decide ([e].length + ([] : List Keyword).length + (if ([] : List Keyword).isEmpty then 0 else 1) < 30)) = true := by rfl)
    (hline : (pa.endLine == pc.line) = true := by rfl) (hs : starEach [e] X.env = (false, eval e X.env) :: starEach [] X.env := by rfl) (hsw : swapsWith (.Call (.Attribute (.Name x px) "extend" pa) [e] [] pc) none pos.line X.env = pure false := by rfl) :
    FS X G E (.Expr (.Call (.Attribute (.Name x px) "extend" pa) [e] [] pc) pos) (tDrop (tBM X.K "list" rExtend (tVar i) (tCons te tNil))) (mExtend i f) :=
  ⟨ps_expr (pe_bm PySem.F.plainAttrs_list PySem.F.slot_list_extend PySem.F.type_list_extend mt_extend hx (pa_cons he.pe pa_nil hs) hbase hfew hline hs (by rfl)) hsw, sim_extend he.sim⟩
end
def gIsiT (Ts : List String) (x : PV) (S : Store) : Res PV := match tyP x with
  | some a => match Ts.mapM (fun T => kitB a T) with
    | some bs => .ok (.bl (bs.any id)) S
    | none => .bad
  | none => .bad
theorem kitAny_of {K : PySem.W.Frag} {a : String} : ∀ {Ts : List String} {bs : List Bool}, Ts.mapM (fun T => kitB a T) = some bs → PySem.W.kitAny K (.type a) (Ts.map Value.type) = some (bs.any id)
  | [], bs, h => by
    simp at h; subst h
    exact kitAny_nil
  | T :: Ts, bs, h => by
    rw [List.mapM_cons] at h
    cases e1 : kitB a T with
    | none => rw [e1] at h; simp at h
    | some b =>
      rw [e1] at h
      cases e2 : Ts.mapM (fun T => kitB a T) with
      | none => rw [e2] at h; simp at h
      | some r =>
        rw [e2] at h
        simp at h
        subst h
        refine kitAny_cons (kit_ty e1) (fun hb => ?_) (fun hb => by rw [hb]; rfl)
        rw [kitAny_of e2, hb]
        rfl
def mIsiT (Ts : List String) (f : Rho → Store → Res PV) : Rho → Store → Res PV := fun ρ S => (f ρ S).bind fun x S1 => gIsiT Ts x S1
/-- the types of a tuple in the text -/
inductive TyNs (X : Cx) : List Expr → List String → Prop
  | nil : TyNs X [] []
  | cons {Tn : Str} {T : String} {pT : Pos} {es : List Expr} {Ts : List String} (pe : PE X (.Name Tn pT) (tC (.ty T))) (r : TyNs X es Ts) (hs : starEach (.Name Tn pT :: es) X.env = (false, eval (.Name Tn pT) X.env) :: starEach es X.env := by rfl) : TyNs X (.Name Tn pT :: es) (T :: Ts)
theorem TyNs.pa {X es Ts} (h : TyNs X es Ts) : PA X es (tCs (Ts.map V.ty)) := by
  induction h with
  | nil => exact pa_nil
  | cons pe r hs ih => exact pa_cons pe ih hs
theorem tys_pr (Ts : List String) : Paired ClsV (Ts.map V.ty) (Ts.map Value.type) := by
  induction Ts with
  | nil => exact .nil
  | cons T Ts ih => exact .cons (.ty T) ih
section
variable {X : Cx} {G : Wd} {E : EK} (K : PySem.W.Frag)
theorem fe_isiT {Ts : List String} {p pT pos e es kk te f} (hm : X.mg "isinstance" = none) (hT : TyNs X es Ts) (he : FE X G E e te f) (hK : X.K = K := by rfl) (hl : Ts.length ≤ 1000 := by decide) (hg : Gl X "isinstance" := by rfl)
    (hs : starEach [e, .Tuple es kk pT] X.env = (false, eval e X.env) :: starEach [.Tuple es kk pT] X.env := by rfl) (hpl : (backTo pos (starEach [.Tuple es kk pT] X.env)).any (·.1) = false := by rfl) (hs2 : starEach [.Tuple es kk pT] X.env = (false, eval (.Tuple es kk pT) X.env) :: starEach [] X.env := by rfl) :
    FE X G E (.Call (.Name "isinstance" p) [e, .Tuple es kk pT] [] pos) (tCB (rIsiT K) (tCons te (tCons (tTup (tCs (Ts.map V.ty))) tNil))) (mIsiT Ts f) := by
  subst hK
  exact ⟨pe_callB call_isiT hg hm (by decide +kernel) (pa_cons he.pe (pa_cons (pe_tup hT.pa) pa_nil hs2) hs) (by decide) (by decide) hs hpl, fun w ρ σ Q I q => by
    refine he.sim w ρ σ _ I (Good.imp (Good.bind1 q) (fun x S1 h1 => ?_) fun _ _ _ h => h)
    intro w1 v e1 s1 k1 r1
    subst e1
    unfold gIsiT at h1
    split at h1
    · rename_i a ea
      split at h1
      · rename_i bs eb
        refine tCs_ok ⟨by rw [List.length_map]; exact Nat.le_trans hl (by decide), fun t ht => ?_⟩
        exact ⟨v, t, _, .type a, _, _, rfl, upd_same, tys_pr Ts, tyx_of (fun a o h => by rw [upd_ne (ne_of_none (cut_some h).2 ht)]; exact (cut_some h).2) ea r1, kitAny_of eb, h1 (w1.put t (.tup (Ts.map V.ty))) (.bl _) rfl (s1.tr (put_step k1 ht) I.ok k1) (put_ok k1 ht) rfl⟩
      · exact h1.elim
    · exact h1.elim⟩
end
def endA (i : Nat) (D : Ends) : Ends := { nx := fun σ' H' => D.nx (σ'.set i none) H', rt := D.rt, bk := fun σ' H' => D.bk (σ'.set i none) H', ct := fun σ' H' => D.ct (σ'.set i none) H' }
def wL (K : PySem.W.Frag) (i : Nat) (D : Ends) : List (Value × (Addr → Value → Option Addr → TS)) → WX
  | [] => fun _ _ _ _ => False
  | (c, ts) :: r => fun cls d σ H => ∃ b, PySem.W.exmOne K cls c = some b ∧ (b = true → ∀ a, H a = none → ts a cls d (endA i D) (σ.set i (some (.ref a))) H) ∧ (b = false → wL K i D r cls d σ H)
inductive HdsA (X : Cx) (n : Str) : List ExceptHandler → List (Value × (Addr → Value → Option Addr → TS)) → Prop
  | nil : HdsA X n [] []
  | cons {x : Str} {c : Value} {ts : Addr → Value → Option Addr → TS} {b₀ : Stmt} {suite : List Stmt} {np pos' : Pos} {hds : List ExceptHandler} {l : List (Value × (Addr → Value → Option Addr → TS))} (hc : Names X x c)
      (su : ∀ (a : Addr) (oe : Obj) (cls : Value) (d : Option Addr) (pn : List (Addr × Obj)), Zc cls d oe → (∃ vs, oe.data = .fields vs) → PSs (X.suite a ((a, oe) :: pn)) (b₀ :: suite) (ts a cls d)) (r : HdsA X n hds l) :
      HdsA X n (.ExceptHandler (some (.Name x np)) (some n) (b₀ :: suite) pos' :: hds) ((c, ts) :: l)
section
variable {X : Cx} {n : Str} {i : Nat} {body : List Stmt} {h₀ : ExceptHandler} {hds : List ExceptHandler} {l : List (Value × (Addr → Value → Option Addr → TS))} {pos : Pos} {tb : WX → TS}
end
abbrev Hd := List (Str × Bool) × (Rho → Store → Res Out)
def unpin : Slot → Slot
  | .pin _ _ => .none
  | s => s
def clr (ρ : Rho) : Rho := ρ.map unpin
theorem clr_get {ρ : Rho} {j : Nat} {s : Slot} (h : (clr ρ)[j]? = some s) : (∀ c fs, s ≠ .pin c fs) ∧ (s ≠ .none → ρ[j]? = some s) := by
  unfold clr at h
  rw [List.getElem?_map] at h
  cases e : ρ[j]? with
  | none => rw [e] at h; cases h
  | some t =>
    rw [e] at h
    simp only [Option.map_some, Option.some.injEq] at h
    subst h
    cases t with
    | pin c fs => exact ⟨fun _ _ z => by simp [unpin] at z, fun z => absurd rfl z⟩
    | none => exact ⟨fun _ _ z => by simp [unpin] at z, fun z => absurd rfl z⟩
    | val x => exact ⟨fun _ _ z => by simp [unpin] at z, fun _ => rfl⟩
    | own x => exact ⟨fun _ _ z => by simp [unpin] at z, fun _ => rfl⟩
/-- the slots without what an exception had in hand -/
theorem FI.clr {K : PySem.W.Frag} {G G' w : Wd} {ρ : Rho} {σ : L2.St} (I : FI K G' w ρ σ) (gok : WOk K G) (stp : WStep G w) (hH : G'.H = G.H) : FI K G w (clr ρ) σ := by
  refine ⟨gok, I.ok, stp, by rw [I.len]; simp [Mir.clr], fun j y h => ?_, fun j o h => ?_, fun j k oj ok' n h1 h2 => ?_, fun j c fs h => ?_⟩
  · exact I.val j y ((clr_get h).2 (by intro z; cases z))
  · have := I.own j o ((clr_get h).2 (by intro z; cases z))
    rw [hH] at this
    exact this
  · exact I.dis j k oj ok' n ((clr_get h1).2 (by intro z; cases z)) ((clr_get h2).2 (by intro z; cases z))
  · exact absurd rfl ((clr_get h).1 c fs)
/-- how a suite ends: the exception's name is forgotten -/
def endS (all : Bool) (i : Nat) : Res Out → Res Out
  | .ok (.rt x) S => .ok (.rt x) S
  | .ok (.nx ρ) S => if all = true then .ok (.nx (clr (ρ.set i .none))) S else .bad
  | .ok (.bk ρ) S => if all = true then .ok (.bk (clr (ρ.set i .none))) S else .bad
  | .ok (.ct ρ) S => if all = true then .ok (.ct (clr (ρ.set i .none))) S else .bad
  | _ => .bad
def mHds (all : Bool) (i : Nat) : List Hd → Str → List (Str × PV) → Rho → Store → Res Out
  | [], _, _, _, _ => .bad
  | (tbl, fs) :: r, c, fv, ρ, S => match tbl.lookup c with
    | some true => endS all i (fs (ρ.set i (.pin c fv)) S)
    | some false => mHds all i r c fv ρ S
    | none => .bad
/-- a try whose suites return in all runs, and read nothing but their exception -/
def mTryL (i n : Nat) (fb : Rho → Store → Res Out) (hs : List Hd) : Rho → Store → Res Out := fun ρ S => match fb ρ S with
  | .exc c fv S1 => mHds false i hs c fv (List.replicate n Slot.none) S1
  | r => r
/-- a try whose body stores nothing ahead of what may raise -/
def mTryB (i : Nat) (fb : Rho → Store → Res Out) (hs : List Hd) : Rho → Store → Res Out := fun ρ S => match fb ρ S with
  | .exc c fv S1 => if i < ρ.length then mHds true i hs c fv (clr ρ) S1 else .bad
  | r => r
inductive HdsF (X : Cx) (nm : Str) : List ExceptHandler → List (Value × (Addr → Value → Option Addr → TS)) → List Hd → Prop
  | nil : HdsF X nm [] [] []
  | cons {x : Str} {cv : Value} {ts : Addr → Value → Option Addr → TS} {b₀ : Stmt} {suite : List Stmt} {np pos' : Pos} {hds : List ExceptHandler} {l : List (Value × (Addr → Value → Option Addr → TS))} {tbl : List (Str × Bool)} {fs : Rho → Store → Res Out} {r : List Hd} (hc : Names X x cv)
      (ht : ∀ p ∈ tbl, ∃ C, X.mg p.1 = some (.ref C) ∧ PySem.W.exmOne X.K (.ref C) cv = some p.2)
      (hsu : ∀ (G : Wd) (a : Addr) (oe : Obj) (cls : Value) (d : Option Addr) (pn : List (Addr × Obj)), Zc cls d oe → (∃ vs, oe.data = .fields vs) → PinOk X.mg G a cls d → FSs (X.suite a ((a, oe) :: pn)) G (fun _ _ _ _ => False) (b₀ :: suite) (ts a cls d) fs)
      (hr : HdsF X nm hds l r) : HdsF X nm (.ExceptHandler (some (.Name x np)) (some nm) (b₀ :: suite) pos' :: hds) ((cv, ts) :: l) ((tbl, fs) :: r)
theorem HdsF.a {X nm hds l r} (h : HdsF X nm hds l r) : HdsA X nm hds l := by
  induction h with
  | nil => exact .nil
  | cons hc ht hsu hr ih =>
    refine .cons hc (fun a oe cls d pn hz hf => ?_) ih
    obtain ⟨G1, h1⟩ := pinOk_some _ a cls d
    exact (hsu G1 a oe cls d pn hz hf h1).pe
theorem HdsF.sim {X : Cx} {nm : Str} {hds l r} {G w w' : Wd} {all : Bool} {i n : Nat} {c : Str} {fv : List (Str × PV)} {C d : Addr} {vs : List (Str × V)} {D : Ends} {ρh : Rho} {σ' : L2.St} {ex : Str → List (Str × PV) → Store → Prop} (h : HdsF X nm hds l r) (J0 : FI X.K G w' ρh σ') (np : ∀ (j : Nat) c fs, ρh[j]? ≠ some (.pin c fs)) (hv : all = true → VStep w w') (hm : X.mg c = some (.ref C)) (hd : w'.hc d = some (.xd vs)) (rf : RF X.K w'.L w'.hc fv vs) (hl' : σ'.length = n) (hnl : i < n)
    (q : Good (mHds all i r c fv ρh w'.S) (PostS X.K G w D) ex) : wL X.K i D l (.ref C) (some d) σ' w'.H := by
  induction h with
  | nil => exact q.elim
  | @cons x cv ts b₀ suite np' pos' hds l tbl fs r hc ht hsu hr ih =>
    have q : Good (match tbl.lookup c with
      | some true => endS all i (fs (ρh.set i (.pin c fv)) w'.S)
      | some false => mHds all i r c fv ρh w'.S
      | none => .bad) (PostS X.K G w D) ex := q
    cases hb : tbl.lookup c with
    | none => rw [hb] at q; exact q.elim
    | some b =>
      rw [hb] at q
      obtain ⟨C', m1, m2⟩ := ht _ (lookup_mem hb)
      have : C' = C := by have m1 : X.mg c = _ := m1; rw [hm] at m1; cases m1; rfl
      subst this
      cases b with
      | false => exact ⟨false, m2, (fun z => nomatch z), fun _ => ih q⟩
      | true =>
        refine ⟨true, m2, fun _ a ha => ?_, fun z => nomatch z⟩
        have sG := J0.stp
        have gok0 := J0.gok
        let Gp : Wd := { G with pin := some (a, d, fun c' => X.mg c' = some (.ref C')) }
        have stp : WStep Gp w' := ⟨sG.pre, sG.keep, sG.omono, sG.oset, sG.lset⟩
        have gok : WOk X.K Gp := ⟨gok0.sub, gok0.nd, gok0.len, gok0.st, gok0.dom⟩
        have pk : PinOk X.mg Gp a (.ref C') (some d) := ⟨d, _, rfl, fun c' h => ⟨rfl, C', rfl, h⟩⟩
        have hlr : ρh.length = n := by rw [← J0.len, hl']
        have J : FI X.K Gp w' (ρh.set i (.pin c fv)) (σ'.set i (some (.ref a))) := by
          refine ⟨gok, J0.ok, stp, by simp [hl', hlr], fun j y h => ?_, fun j o h => ?_, fun j k oj ok' n h1 h2 => ?_, fun j c2 fs2 h => ?_⟩
          · rcases set_get h with ⟨_, e⟩ | ⟨ne, h⟩
            · cases e
            · rw [List.getElem?_set_ne (Ne.symm ne)]; exact J0.val j y h
          · rcases set_get h with ⟨_, e⟩ | ⟨ne, h⟩
            · cases e
            · rw [List.getElem?_set_ne (Ne.symm ne)]; exact J0.own j o h
          · rcases set_get h1 with ⟨_, e⟩ | ⟨n1, h1⟩
            · cases e
            · rcases set_get h2 with ⟨_, e⟩ | ⟨n2, h2⟩
              · cases e
              · rw [List.getElem?_set_ne (Ne.symm n1), List.getElem?_set_ne (Ne.symm n2)]
                exact J0.dis j k oj ok' n h1 h2
          · rcases set_get h with ⟨rfl, e⟩ | ⟨_, h⟩
            · cases e
              exact ⟨a, d, _, vs, rfl, by rw [List.getElem?_set_self (by rw [hl']; exact hnl)], hm, hd, rf⟩
            · exact absurd h (np j c2 fs2)
        refine (hsu Gp a ⟨.ref C', some d, .fields #[], #[]⟩ (.ref C') (some d) [] ⟨rfl, rfl⟩ ⟨_, rfl⟩ pk).sim w' _ _ _ J ?_
        have q : Good (endS all i (fs (ρh.set i (.pin c fv)) w'.S)) (PostS X.K G w D) ex := q
        have fall : ∀ {ρ2 : Rho} {S2 : Store} {Z : L2.St → Hp → Prop}, all = true → PostR X.K G w Z (clr (ρ2.set i .none)) S2 → PostR X.K Gp w' (fun σ2 H2 => Z (σ2.set i none) H2) ρ2 S2 := fun ha qz w2 σ2 e2 s2 I2 => by
          refine qz w2 (σ2.set i none) e2 ((hv ha).trans s2) (FI.clr (I2.wipe1 (i := i) (v := none)) gok0 ?_ rfl)
          have z := I2.stp
          exact ⟨z.pre, z.keep, z.omono, z.oset, z.lset⟩
        cases es : fs (ρh.set i (.pin c fv)) w'.S with
        | exc c2 f2 S2 => rw [es] at q; exact q.elim
        | bad => rw [es] at q; exact q.elim
        | ok o S2 =>
          rw [es] at q
          cases o with
          | nx ρ2 =>
            obtain ⟨ha, q⟩ := good_if q
            exact fall ha q
          | bk ρ2 =>
            obtain ⟨ha, q⟩ := good_if q
            exact fall ha q
          | ct ρ2 =>
            obtain ⟨ha, q⟩ := good_if q
            exact fall ha q
          | rt y =>
            intro w2 v e2 s2 k2 r2
            exact q w2 v e2 ⟨s2.pre, s2.keep, s2.omono, s2.oset, s2.lset⟩ k2 r2
section
variable {X : Cx} {G : Wd} {E : EK}
end
end Mir
set_option maxHeartbeats 4000000
namespace Mir
open PySem PySem.Spec PyProof.Rows L2
theorem hu_of2 {k : Nat} {A : Around} (hr : Room k A) : A.units + 200 < cLine := by have := hr.un; omega
section
variable {X : Cx} {G : Wd} {E : EK} {E1 : XK} (K : PySem.W.Frag)
theorem call_reprU (hu : X.A.units + 200 < cLine) (hg : X.A.guards = some []) : CallR X (.builtin "repr") (rRepr X.K) := by
  intro pins s σ H xs us Q I r ⟨x, d, ex, dp, hs, hd, hz, hdep, q⟩
  subst ex
  obtain ⟨u, rfl, ru⟩ := vals1 r
  cases dp with
  | non =>
    cases ru
    exact PySem.P.repr_of_none ⟨.str _, H, I.tok _, ⟨_, rfl⟩, by simp only [PyData.shown] at q; exact q⟩
  | bl b =>
    cases ru
    exact PySem.P.repr_of_bool ⟨.str _, H, I.tok _, ⟨_, rfl⟩, by simp only [PyData.shown] at q; exact q⟩
  | int i =>
    obtain ⟨t, rfl⟩ := ru
    exact PySem.P.repr_of_int (by simpa [PyData.showable] using hs) ⟨.str _, H, I.tok _, ⟨_, rfl⟩, by simp only [PyData.shown] at q; exact q⟩
  | str z =>
    obtain ⟨t, rfl⟩ := ru
    exact PySem.P.repr_of_str ⟨.str _, H, I.tok _, ⟨_, rfl⟩, by simp only [PyData.shown] at q; exact q⟩ (hsz := by simpa [PyData.shown] using hz)
  | @lst a ys ds h1 h2 =>
    obtain ⟨as, rd⟩ := Dp.reads I (.list ds) (.ref a) u (.lst h1 h2) ru
    cases ru
    exact repr_of_reads' rd hs (PyData.noDict_hsm hd) hg (by omega) (fun _ _ e => e) (fun h' t tk kp => ⟨.str _, H, I.kept (t' := tk) kp, ⟨t, rfl⟩, q⟩) hz
  | @tup a ys ds h1 h2 =>
    obtain ⟨as, rd⟩ := Dp.reads I (.tuple ds) (.ref a) u (.tup h1 h2) ru
    cases ru
    exact repr_of_reads' rd hs (PyData.noDict_hsm hd) hg (by omega) (fun _ _ e => e) (fun h' t tk kp => ⟨.str _, H, I.kept (t' := tk) kp, ⟨t, rfl⟩, q⟩) hz
theorem kReprU (hu : X.A.units + 200 < cLine) (hg : X.A.guards = some []) (h : X.K = K := by rfl) : CallR X (.builtin "repr") (rRepr K) := h ▸ call_reprU hu hg
theorem kEqD (hu : X.A.units + 200 < cLine) (h : X.K = K := by rfl) : OpR X (compareOp .Eq) (rEqE K) := h ▸ op_eq.or (op_eqD (by omega))
theorem kNeD (hu : X.A.units + 200 < cLine) (h : X.K = K := by rfl) : OpR X (compareOp .NotEq) (rNeE K) := h ▸ op_ne.or (op_neD (by omega))
theorem kInD (hu : X.A.units + 200 < cLine) (h : X.K = K := by rfl) : OpR X (compareOp .In) (rInA K) := h ▸ op_inA (by omega)
theorem fs_asgT {es : List Expr} {k : Nat} {tp : Pos} {e pos te f g fg} (he : FE X G (fun _ => E1) e te f) (hg : FG X G E1 (.Tuple es k tp) g fg) (hs : swapsWithSole [.Tuple es k tp] e pos.line X.env = pure false := by rfl) (hw : swappedStores [.Tuple es k tp] e X.env = pure none := by rfl)
    (h1 : (assignEach [.Tuple es k tp] X.env).map (·.2) = [assign (.Tuple es k tp) X.env] := by rfl) : FS X G (fun _ => E1) (.Assign [.Tuple es k tp] e pos) (tAsg te g) (mAsg f fg) := fs_asg he hg (ps_asg he.pe hg.pe hs hw h1)
theorem gk_tup {vs : List Nat} {es k t pos f} {n : Nat} (h : FGts X G es t f vs) (pe : PG X (.Tuple es k pos) (L2.gTup X.K n t)) (hK : X.K = K := by rfl) : FGt X G (.Tuple es k pos) (L2.gTup K n t) (gTupM n f) vs := hK ▸ gt_tup h pe
theorem gk_un {es k t pos f} {n : Nat} (h : FGs X G E1 es t f) (p1 : PG X (.Tuple es k pos) (L2.gTup X.K n t)) (p2 : PG X (.Tuple es k pos) (L2.gLst X.K n t)) (hK : X.K = K := by rfl) : FG X G E1 (.Tuple es k pos) (gUnR K n t) (gUn n f) := hK ▸ fg_un h p1 p2
end
def obsN (n : Nat) (fa : List He.Fa) (fn : List He.DefD) (ts : List He.Tab) (ex : PySem.W.Frag → Bool) (g : Addr → Option Obj) : He.AlT × Bool := (He.obsT fa fn ts (He.frG g (He.asD g n)), ex (He.frG g (He.asD g n)))
def hookN (n : Nat) (fa : List He.Fa) (fn : List He.DefD) (ts : List He.Tab) (ex : PySem.W.Frag → Bool) : PySem.W.Hook where
  α := He.AlT × Bool
  obs := fun s => obsN n fa fn ts ex s.heap.get?
  val := fun w => (He.valT fn ts w, true)
  says := fun w h => ∃ K : PySem.W.Frag, K.In h ∧ He.SaysT fa fn ts w K ∧ ex K = true
  of := fun _ _ e => ⟨_, He.frG_in, congrArg Prod.fst e, congrArg Prod.snd e⟩
  keeps := fun _ _ _ ⟨K, hK, c⟩ k => ⟨K, PySem.W.Frag.In.keeps hK k, c⟩
def obN (n : Nat) (fa : List He.Fa) (fn : List He.DefD) (ts : List He.Tab) (ex : PySem.W.Frag → Bool) (s : PySem.W.SharedT) : He.AlT × Bool := obsN n fa fn ts ex (HandSHeadRun.getT s)
theorem obN_eq {n : Nat} {fa : List He.Fa} {fn : List He.DefD} {ts : List He.Tab} {ex : PySem.W.Frag → Bool} (s : PySem.W.SharedT) : obN n fa fn ts ex s = (hookN n fa fn ts ex).obs s.abs := by
  have e : HandSHeadRun.getT s = s.abs.heap.get? := funext fun a => HandSHeadRun.getT_eq s a
  unfold obN
  rw [e]
  rfl
end Mir
namespace Mir
open PySem PySem.Spec PyProof.Rows L2
theorem takes_def {P : Program} {w : World} {K : PySem.W.Frag} {mg : Str → Option Value} {base : Heap} {N : List Str} {qual : Str} {sc : Scope} {f : Addr} {cd : Value} {A : Around} {outer : List Env} {s : Shared} {H : Hp} {E : XK} :
    Takes (cxOf (L2.CX P w) P w K mg base N qual sc f cd A outer s H E) (fun c d _ H => E c d H) := takes_of rfl rfl rfl rfl
/-- the j-th statement of a class's body -/
def clsStmt (st : Stmt) (j : Nat) : Stmt := match st with
  | .ClassDef _ _ _ body _ _ _ _ _ _ _ => body.getD j (.Pass ⟨0, 0, 0, 0⟩)
  | _ => .Pass ⟨0, 0, 0, 0⟩
end Mir
namespace Mir
open PySem
end Mir
set_option maxHeartbeats 4000000
namespace Mir
open PySem L2
/-- an equation that is used as such, not by computing -/
theorem nrfl {α : Type} {a b : α} (h : a = b) : a = b := h
section
variable {α β : Type} {ρ : Rho} {S S' : Store} {f g h : Rho → Store → Res Out} {a b c : Rho → Store → Res PV} {t u : Rho → Store → Res Bool} {as : Rho → Store → Res (List PV)} {n : Rho → Store → Res SO} {i : Nat}
theorem ev_bind {x : α} {k : α → Store → Res β} : (Res.ok x S).bind k = k x S := nrfl rfl
theorem ev_nox {x : α} : (Res.ok x S).nox = .ok x S := nrfl rfl
theorem ev_seq : mSeq f g ρ S = (f ρ S).bind fun o S1 => match o with | .nx ρ' => g ρ' S1 | o => .ok o S1 := nrfl rfl
theorem ev_set : mSet i a ρ S = (a ρ S).bind fun x S1 => .ok (.nx (ρ.set i (.val x))) S1 := nrfl rfl
theorem ev_setOwn : mSetOwn i n ρ S = (n ρ S).bind fun x S1 => .ok (.nx (ρ.set i (.own x))) S1 := nrfl rfl
theorem ev_share : mShare i n ρ S = (n ρ S).bind fun o S1 => .ok (.nx (ρ.set i (.val (.obj S1.length)))) (S1 ++ [o]) := nrfl rfl
theorem ev_drop : mDrop a ρ S = (a ρ S).bind fun _ S1 => .ok (.nx ρ) S1 := nrfl rfl
theorem ev_ret : mRet a ρ S = (a ρ S).bind fun x S1 => .ok (.rt x) S1 := nrfl rfl
theorem ev_retOwn : mRetOwn i ρ S = match ρ[i]? with | some (.own o) => .ok (.rt (frz o)) S | _ => .bad := nrfl rfl
theorem ev_skip : mSkip ρ S = .ok (.nx ρ) S := nrfl rfl
theorem ev_brk : mBrk ρ S = .ok (.bk ρ) S := nrfl rfl
theorem ev_cnt : mCnt ρ S = .ok (.ct ρ) S := nrfl rfl
theorem ev_ifS : mIfS t f g ρ S = (t ρ S).bind fun k S1 => if k then f ρ S1 else g ρ S1 := nrfl rfl
theorem ev_frzS : mFrzS i f ρ S = f (frzAt i ρ) S := nrfl rfl
theorem ev_append : mAppend i a ρ S = match ρ[i]? with
    | some (.own (.lst xs)) => (a ρ S).bind fun y S1 => if xs.length < sizeM then .ok (.nx (ρ.set i (.own (.lst (xs ++ [y]))))) S1 else .bad
    | _ => .bad := nrfl rfl
theorem ev_setIx : mSetIx i b a ρ S = (a ρ S).bind fun y S1 => match ρ[i]? with
  | some (.own (.lst xs)) => (b ρ S1).bind fun k S2 => setIx i xs y ρ k S2
  | some (.val (.obj n)) => (b ρ S1).bind fun k S2 => setIxO n y ρ k S2
  | _ => .bad := nrfl rfl
theorem ev_for {it : Rho → Store → Res (List PV)} {tg : PV → Rho → Store → Res Rho} : mFor it tg f ρ S = (it ρ S).bind fun xs S1 => mForGo tg f xs ρ S1 := nrfl rfl
theorem ev_lc {it : Rho → Store → Res (List PV)} {tg : PV → Rho → Store → Res Rho} {vs : List Nat} : mLc it tg t a vs ρ S = (it ρ S).bind fun xs S1 => if xs.length ≤ sizeM then (mLcGo tg t a (mWipe ρ vs) xs S1).bind fun ys S2 => .ok (.lst ys) S2 else .bad := nrfl rfl
theorem ev_seqOf : mSeqOf a ρ S = (a ρ S).bind toSeq := nrfl rfl
theorem ev_range {r : List PV → Store → Res (List PV)} : mRange r as ρ S = (as ρ S).bind r := nrfl rfl
theorem ev_var : mVar i ρ S = match ρ[i]? with | some (.val x) => .ok x S | _ => .bad := nrfl rfl
theorem ev_c {x : PV} : mC x ρ S = .ok x S := nrfl rfl
theorem ev_op {r : PV → PV → Store → Res α} : mOp r a b ρ S = (a ρ S).bind fun x S1 => (b ρ S1).bind fun y S2 => r x y S2 := nrfl rfl
theorem ev_un {r : PV → Store → Res α} : mUn r a ρ S = (a ρ S).bind r := nrfl rfl
theorem ev_args {r : List PV → Store → Res α} : mArgs r as ρ S = (as ρ S).bind r := nrfl rfl
theorem ev_nil : mNil ρ S = .ok [] S := nrfl rfl
theorem ev_cons : mCons a as ρ S = (a ρ S).bind fun x S1 => (as ρ S1).bind fun xs S2 => .ok (x :: xs) S2 := nrfl rfl
theorem ev_frz : mFrz n ρ S = (n ρ S).bind fun o S1 => .ok (frz o) S1 := nrfl rfl
theorem ev_b : mB a ρ S = (a ρ S).bind toB := nrfl rfl
theorem ev_and : mAnd t u ρ S = (t ρ S).bind fun c S1 => if c then u ρ S1 else .ok false S1 := nrfl rfl
theorem ev_or : mOr t u ρ S = (t ρ S).bind fun c S1 => if c then .ok true S1 else u ρ S1 := nrfl rfl
theorem ev_not : mNot t ρ S = (t ρ S).bind fun c S1 => .ok (!c) S1 := nrfl rfl
theorem ev_andV : mAndV a b ρ S = (mB a ρ S).bind fun c S1 => if c then b ρ S1 else .ok (.bl false) S1 := nrfl rfl
theorem ev_orV : mOrV a b ρ S = (mB a ρ S).bind fun c S1 => if c then .ok (.bl true) S1 else b ρ S1 := nrfl rfl
theorem ev_notV : mNotV a ρ S = (mB a ρ S).bind fun c S1 => .ok (.bl (!c)) S1 := nrfl rfl
theorem ev_if {x y : Rho → Store → Res α} : mIf t x y ρ S = (t ρ S).bind fun c S1 => if c then x ρ S1 else y ρ S1 := nrfl rfl
theorem ev_chain {r r' : PV → PV → Store → Res PV} : mChain r r' a b c ρ S = (a ρ S).bind fun x S1 => (b ρ S1).bind fun y S2 => (r x y S2).bind fun z S3 => (toB z S3).bind fun k S4 => if k then (c ρ S4).bind fun u S5 => r' y u S5 else .ok (.bl false) S4 := nrfl rfl
theorem ev_isi {T : String} : mIsi T a ρ S = (a ρ S).bind fun x S1 => gIsi T x S1 := nrfl rfl
theorem ev_ixOwn : mIxOwn i a ρ S = match ρ[i]? with | some (.own (.lst xs)) => (a ρ S).bind fun k S1 => gIx (.lst xs) k S1 | _ => .bad := nrfl rfl
theorem ev_lenOwn : mLenOwn i ρ S = match ρ[i]? with | some (.own (.lst xs)) => .ok (.int xs.length) S | _ => .bad := nrfl rfl
theorem ev_call {k : Nat} {m : List PV → Store → Res PV} {ds : List PV} : mCall k m ds as ρ S = (as ρ S).bind fun xs S1 => if (xs ++ ds).length = k then m (xs ++ ds) S1 else .bad := nrfl rfl
theorem ev_callK {k : Nat} {m : List PV → Store → Res PV} {gP : List PV → List PV → List PV} {fk : Rho → Store → Res (List PV)} : mCallK k m gP as fk ρ S = (as ρ S).bind fun xs S1 => (fk ρ S1).bind fun ys S2 => if (gP xs ys).length = k then m (gP xs ys) S2 else .bad := nrfl rfl
theorem ev_sl {r : PV → Option Int → Option Int → Store → Res α} {l h : Rho → Store → Res (Option Int)} : mSl r a l h ρ S = (a ρ S).bind fun x S1 => (l ρ S1).bind fun i S2 => (h ρ S2).bind fun j S3 => r x i j S3 := nrfl rfl
theorem ev_part : mPart a ρ S = (a ρ S).bind fun x S1 => match x with | .int i => .ok (some i) S1 | _ => .bad := nrfl rfl
theorem ev_true : mTrue ρ S = .ok true S := nrfl rfl
theorem ev_nm {x : PV} : gNm i x ρ S = .ok (ρ.set i (.val x)) S := nrfl rfl
theorem ev_toB {k : Bool} : toB (.bl k) S = .ok k S := nrfl rfl
end
theorem toSeq_tup {xs : List PV} {S : Store} : toSeq (.tup xs) S = .ok xs S := nrfl rfl
theorem toSeq_pt {xs : List PV} {S : Store} : toSeq (.pt xs) S = .ok xs S := nrfl rfl
theorem toSeq_lst {xs : List PV} {S : Store} : toSeq (.lst xs) S = .ok xs S := nrfl rfl
theorem toSeq_cl {xs : List PV} {S : Store} : toSeq (.cl xs) S = .ok xs S := nrfl rfl
section
variable {g : PV → Rho → Store → Res Rho} {b : Rho → Store → Res Out}
/-- a loop by an invariant over what is done -/
theorem for_inv {xs : List PV} (Pv : List PV → Rho → Store → Prop)
    (h : ∀ pre x post ρ S, xs = pre ++ x :: post → Pv pre ρ S → ∃ ρ' S', ((g x ρ S).bind (fun ρ1 S1 => b ρ1 S1) = .ok (.nx ρ') S' ∨ (g x ρ S).bind (fun ρ1 S1 => b ρ1 S1) = .ok (.ct ρ') S') ∧ Pv (pre ++ [x]) ρ' S') :
    ∀ ρ S, Pv [] ρ S → ∃ ρ' S', mForGo g b xs ρ S = .ok (.nx ρ') S' ∧ Pv xs ρ' S' := by
  have key : ∀ (post pre : List PV), xs = pre ++ post → ∀ ρ S, Pv pre ρ S → ∃ ρ' S', mForGo g b post ρ S = .ok (.nx ρ') S' ∧ Pv xs ρ' S' := by
    intro post
    induction post with
    | nil =>
      intro pre e ρ S hp
      rw [List.append_nil] at e
      exact ⟨ρ, S, rfl, e ▸ hp⟩
    | cons x post ih =>
      intro pre e ρ S hp
      obtain ⟨ρ', S', hb, hp'⟩ := h pre x post ρ S e hp
      obtain ⟨ρ2, S2, e2, h2⟩ := ih (pre ++ [x]) (by rw [e, List.append_assoc]; rfl) ρ' S' hp'
      refine ⟨ρ2, S2, ?_, h2⟩
      rw [← e2]
      show ((g x ρ S).bind fun ρ1 S1 => (b ρ1 S1).bind _) = _
      cases eg : g x ρ S with
      | bad => rw [eg] at hb; rcases hb with hb | hb <;> cases hb
      | exc c fs S1 => rw [eg] at hb; rcases hb with hb | hb <;> cases hb
      | ok ρ1 S1 =>
        rw [eg] at hb
        rcases hb with hb | hb
        · show (b ρ1 S1).bind _ = _
          rw [show b ρ1 S1 = .ok (.nx ρ') S' from hb]
          rfl
        · show (b ρ1 S1).bind _ = _
          rw [show b ρ1 S1 = .ok (.ct ρ') S' from hb]
          rfl
  intro ρ S hp
  exact key xs [] rfl ρ S hp
/-- a loop that may return -/
theorem for_ret {xs : List PV} (Pv : List PV → Rho → Store → Prop) (Rt : PV → Store → Prop)
    (h : ∀ pre x post ρ S, xs = pre ++ x :: post → Pv pre ρ S → (∃ ρ' S', ((g x ρ S).bind (fun ρ1 S1 => b ρ1 S1) = .ok (.nx ρ') S' ∨ (g x ρ S).bind (fun ρ1 S1 => b ρ1 S1) = .ok (.ct ρ') S') ∧ Pv (pre ++ [x]) ρ' S') ∨ ∃ v S', (g x ρ S).bind (fun ρ1 S1 => b ρ1 S1) = .ok (.rt v) S' ∧ Rt v S') :
    ∀ ρ S, Pv [] ρ S → (∃ ρ' S', mForGo g b xs ρ S = .ok (.nx ρ') S' ∧ Pv xs ρ' S') ∨ ∃ v S', mForGo g b xs ρ S = .ok (.rt v) S' ∧ Rt v S' := by
  have key : ∀ (post pre : List PV), xs = pre ++ post → ∀ ρ S, Pv pre ρ S → (∃ ρ' S', mForGo g b post ρ S = .ok (.nx ρ') S' ∧ Pv xs ρ' S') ∨ ∃ v S', mForGo g b post ρ S = .ok (.rt v) S' ∧ Rt v S' := by
    intro post
    induction post with
    | nil =>
      intro pre e ρ S hp
      rw [List.append_nil] at e
      exact .inl ⟨ρ, S, rfl, e ▸ hp⟩
    | cons x post ih =>
      intro pre e ρ S hp
      have un : ∀ o S', (g x ρ S).bind (fun ρ1 S1 => b ρ1 S1) = .ok o S' → mForGo g b (x :: post) ρ S = (match o with
          | .nx ρ2 => mForGo g b post ρ2 S'
          | .ct ρ2 => mForGo g b post ρ2 S'
          | .bk ρ2 => .ok (.nx ρ2) S'
          | .rt v => .ok (.rt v) S') := by
        intro o S' hb
        show ((g x ρ S).bind fun ρ1 S1 => (b ρ1 S1).bind _) = _
        cases eg : g x ρ S with
        | bad => rw [eg] at hb; cases hb
        | exc c fs S1 => rw [eg] at hb; cases hb
        | ok ρ1 S1 =>
          rw [eg] at hb
          show (b ρ1 S1).bind _ = _
          rw [show b ρ1 S1 = .ok o S' from hb]
          cases o <;> rfl
      rcases h pre x post ρ S e hp with ⟨ρ', S', hb, hp'⟩ | ⟨v, S', hb, hr⟩
      · have e2 : mForGo g b (x :: post) ρ S = mForGo g b post ρ' S' := by
          rcases hb with hb | hb
          · exact un _ _ hb
          · exact un _ _ hb
        rw [e2]
        exact ih (pre ++ [x]) (by rw [e, List.append_assoc]; rfl) ρ' S' hp'
      · exact .inr ⟨v, S', un _ _ hb, hr⟩
  intro ρ S hp
  exact key xs [] rfl ρ S hp
variable {t : Rho → Store → Res Bool} {a : Rho → Store → Res PV} {ρ : Rho}
/-- a comprehension whose items are told by a function -/
theorem lc_map {xs : List PV} {S : Store} (f : PV → PV) (h : ∀ x ∈ xs, ∃ ρ1, g x ρ S = .ok ρ1 S ∧ t ρ1 S = .ok true S ∧ a ρ1 S = .ok (f x) S) : mLcGo g t a ρ xs S = .ok (xs.map f) S := by
  induction xs with
  | nil => rfl
  | cons x xs ih =>
    obtain ⟨ρ1, h1, h2, h3⟩ := h x List.mem_cons_self
    have e := ih fun y hy => h y (List.mem_cons_of_mem _ hy)
    simp only [mLcGo, h1, h2, h3, Res.nox, Res.bind, e, if_pos, List.map_cons]
end
theorem small64_ok {i : Int} (h : -18446744073709551616 < i) (h2 : i < 18446744073709551616) : small64 i = true := by
  unfold small64 pow64
  simp only [Bool.and_eq_true, decide_eq_true_eq]
  exact ⟨h, h2⟩
theorem range62_ok {i : Int} (h : -4611686018427387904 ≤ i) (h2 : i < 4611686018427387904) : range62 i = true := by
  unfold range62
  simp only [Bool.and_eq_true, decide_eq_true_eq]
  exact ⟨h, h2⟩
theorem ixN_ok {n : Nat} {i : Int} (h : 0 ≤ i) (h2 : i < n) : ixN n i = some i.toNat := by
  unfold ixN
  rw [if_pos h, if_pos h2]
theorem atI_ok {α : Type} {xs : List α} {i : Int} (h : 0 ≤ i) (h2 : i < xs.length) : ∃ (hi : i.toNat < xs.length), atI xs i = some xs[i.toNat] := by
  have hi : i.toNat < xs.length := by omega
  refine ⟨hi, ?_⟩
  unfold atI
  rw [ixN_ok h h2]
  exact List.getElem?_eq_getElem hi
theorem atI_ints {ns : List Int} {i : Int} (h : 0 ≤ i) (h2 : i < ns.length) : ∃ v, atI (ns.map PV.int) i = some (.int v) ∧ v ∈ ns ∧ ns[i.toNat]? = some v := by
  obtain ⟨hi, e⟩ := atI_ok (xs := ns.map PV.int) h (by simpa using h2)
  have hi' : i.toNat < ns.length := by simpa using hi
  refine ⟨ns[i.toNat], ?_, List.getElem_mem hi', List.getElem?_eq_getElem hi'⟩
  rw [e]
  simp
theorem geA_int {i j : Int} {S : Store} : gGeA (.int i) (.int j) S = .ok (.bl (decide (j ≤ i))) S := nrfl rfl
theorem sizeM_eq : sizeM = 100000 := nrfl rfl
end Mir
set_option maxHeartbeats 4000000
namespace Mir
open PySem L2
def B_draws : Rho → Store → Res Out :=
  (mSeq (mSetOwn 2 (mLc (mSeqOf (mVar 0)) (gNm 5) mTrue (mArgs gAbs (mCons (mArgs gInt (mCons (mVar 5) mNil)) mNil)) [5]))
    (mSeq (mSetOwn 3 (mArgs gLst mNil))
    (mSeq (mFor (mRange gRange1 (mCons (mVar 1) mNil)) (gNm 4)
    (mSeq (mSet 5 (mVar 4))
    (mSeq (mIfS (mB (mOp gGt (mArgs gLen (mCons (mVar 0) mNil)) (mC (.int 0))))
    (mSeq (mSet 7 (mOp gMod (mVar 4) (mArgs gLen (mCons (mVar 0) mNil))))
    (mSeq (mSet 5 (mArgs gInt (mCons (mOp gIx (mVar 0) (mVar 7)) mNil)))
    (mIfS (mAnd (mB (mOp gGeA (mVar 5) (mOp gPow (mC (.int 10)) (mC (.int 18))))) (mB (mOp gGt (mIxOwn 2 (mVar 7)) (mC (.int 0)))))
    (mSeq (mAppend 3 (mOp gMod (mArgs gInt (mCons (mIxOwn 2 (mVar 7)) mNil)) (mC (.int 1000003))))
    (mSeq (mSetIx 2 (mVar 7) (mOp gFdiv (mArgs gInt (mCons (mIxOwn 2 (mVar 7)) mNil)) (mC (.int 1000003))))
    mCnt))
    mSkip)))
    mSkip)
    (mSeq (mSet 6 (mOp gMod (mArgs gInt (mCons (mOp gAddA (mOp gAddA (mOp gMulA (mVar 5) (mC (.int 48271))) (mOp gMulA (mVar 4) (mC (.int 69621)))) (mC (.int 11))) mNil)) (mC (.int 2147483647))))
    (mSeq (mSet 6 (mOp gMod (mArgs gInt (mCons (mOp gAddA (mOp gFdiv (mOp gMulA (mVar 6) (mVar 6)) (mC (.int 4096))) (mVar 6)) mNil)) (mC (.int 2147483629))))
    (mAppend 3 (mOp gMod (mArgs gInt (mCons (mOp gAddA (mOp gFdiv (mOp gMulA (mVar 6) (mVar 6)) (mC (.int 4096))) (mOp gMulA (mVar 4) (mC (.int 7919)))) mNil)) (mC (.int 2147483629)))))))))
    (mFrzS 2 (mRetOwn 3)))))
def B_take : Rho → Store → Res Out :=
  (mSeq (mSet 2 (mOp gIx (mVar 0) (mC (.int 1))))
    (mSeq (mSetIx 0 (mC (.int 1)) (mOp gAddA (mVar 2) (mC (.int 1))))
    (mSeq (mSet 3 (mOp gIx (mVar 0) (mC (.int 0))))
    (mSeq (mIfS (mB (mOp gGeA (mVar 2) (mArgs gLen (mCons (mVar 3) mNil))))
    (mRet (mC (.int 0)))
    mSkip)
    (mRet (mOp gMod (mOp gFdiv (mArgs gInt (mCons (mOp gIx (mVar 3) (mVar 2)) mNil)) (mC (.int 7))) (mVar 1)))))))
/-- a hand of draws stands first in the store -/
def Hand (S : Store) (R : Store) : Prop := ∃ (ds : List Int) (k : Int), S = .lst [.lst (ds.map PV.int), .int k] :: R ∧ 0 ≤ k ∧ ∀ d ∈ ds, 0 ≤ d
theorem take_ok {S R : Store} {many : Int} (h : Hand S R) (hm : 0 < many) : ∃ v S', mDef 4 B_take [.obj 0, .int many] S = .ok (.int v) S' ∧ Hand S' R ∧ 0 ≤ v ∧ v < many := by
  obtain ⟨ds, k, rfl, hk, hd⟩ := h
  have H' : Hand (.lst [.lst (ds.map PV.int), .int (k + 1)] :: R) R := ⟨ds, k + 1, rfl, by omega, hd⟩
  have i1 : ixN 2 1 = some 1 := rfl
  have a1 : ∀ (x y : PV), atI [x, y] 1 = some y := fun _ _ => rfl
  have a0 : ∀ (x y : PV), atI [x, y] 0 = some x := fun _ _ => rfl
  by_cases hlt : k < ds.length
  · obtain ⟨v, e, hv, _⟩ := atI_ints (ns := ds) hk hlt
    have v0 := hd v hv
    refine ⟨v / 7 % many, _, ?_, H', Int.emod_nonneg _ (by omega), Int.emod_lt_of_pos _ hm⟩
    show (B_take [.val (.obj 0), .val (.int many), .none, .none] _).bind toRet = _
    unfold B_take
    simp only [ev_bind, ev_nox, ev_seq, ev_set, ev_setOwn, ev_share, ev_drop, ev_ret, ev_retOwn, ev_skip, ev_brk, ev_cnt, ev_ifS, ev_frzS, ev_append, ev_setIx, ev_for, ev_lc, ev_seqOf, ev_range, ev_var, ev_c, ev_op, ev_un, ev_args, ev_nil, ev_cons, ev_frz, ev_b, ev_and, ev_or, ev_not, ev_andV, ev_orV, ev_notV, ev_if, ev_chain, ev_isi, ev_ixOwn, ev_lenOwn, ev_call, ev_callK, ev_sl, ev_part, ev_true, ev_nm, ev_toB, frz, frzAt, toSeq_tup, toSeq_pt, toSeq_lst, toSeq_cl, toRet, mWipe, kbG, Mir.gTup, Mir.gLst, List.getElem?_cons_zero, List.getElem?_cons_succ, List.set_cons_zero, List.set_cons_succ, List.length_cons, List.length_nil, List.append_nil, List.nil_append, List.cons_append, Nat.reduceAdd, Nat.reduceLeDiff, Nat.reduceEqDiff, Nat.zero_add, reduceIte, Bool.false_eq_true, Bool.not_true, Bool.not_false, and_self, sizeM_eq, gAddA, gAdd, gMulA, gMul, Mir.gSub, gFdiv, gMod, gLt, gLe, gGt, geA_int, gLen, gInt, gAbs, gNeg, gIx, a1, a0, setIxO, i1, List.length_map, e, decide_eq_true_eq, show ¬ ((ds.length : Int) ≤ k) by omega, decide_false, show (0 : Int) < 7 by decide, decide_true, show (7 : Int) < 1073741824 by decide, Bool.and_self, hm]
  · refine ⟨0, _, ?_, H', by omega, hm⟩
    show (B_take [.val (.obj 0), .val (.int many), .none, .none] _).bind toRet = _
    unfold B_take
    simp only [ev_bind, ev_nox, ev_seq, ev_set, ev_setOwn, ev_share, ev_drop, ev_ret, ev_retOwn, ev_skip, ev_brk, ev_cnt, ev_ifS, ev_frzS, ev_append, ev_setIx, ev_for, ev_lc, ev_seqOf, ev_range, ev_var, ev_c, ev_op, ev_un, ev_args, ev_nil, ev_cons, ev_frz, ev_b, ev_and, ev_or, ev_not, ev_andV, ev_orV, ev_notV, ev_if, ev_chain, ev_isi, ev_ixOwn, ev_lenOwn, ev_call, ev_callK, ev_sl, ev_part, ev_true, ev_nm, ev_toB, frz, frzAt, toSeq_tup, toSeq_pt, toSeq_lst, toSeq_cl, toRet, mWipe, kbG, Mir.gTup, Mir.gLst, List.getElem?_cons_zero, List.getElem?_cons_succ, List.set_cons_zero, List.set_cons_succ, List.length_cons, List.length_nil, List.append_nil, List.nil_append, List.cons_append, Nat.reduceAdd, Nat.reduceLeDiff, Nat.reduceEqDiff, Nat.zero_add, reduceIte, Bool.false_eq_true, Bool.not_true, Bool.not_false, and_self, sizeM_eq, gAddA, gAdd, gMulA, gMul, Mir.gSub, gFdiv, gMod, gLt, gLe, gGt, geA_int, gLen, gInt, gAbs, gNeg, gIx, a1, a0, setIxO, i1, List.length_map, decide_eq_true_eq, show ((ds.length : Int) ≤ k) by omega, decide_true]
theorem cat_map (ds : List Int) (v : Int) : ds.map PV.int ++ [.int v] = (ds ++ [v]).map PV.int := by simp
theorem set_map (ds : List Int) (i : Nat) (v : Int) : (ds.map PV.int).set i (.int v) = (ds.set i v).map PV.int := by simp
/-- the last rows of a draw's turn -/
def B_mix : Rho → Store → Res Out :=
  (mSeq (mSet 6 (mOp gMod (mArgs gInt (mCons (mOp gAddA (mOp gAddA (mOp gMulA (mVar 5) (mC (.int 48271))) (mOp gMulA (mVar 4) (mC (.int 69621)))) (mC (.int 11))) mNil)) (mC (.int 2147483647))))
    (mSeq (mSet 6 (mOp gMod (mArgs gInt (mCons (mOp gAddA (mOp gFdiv (mOp gMulA (mVar 6) (mVar 6)) (mC (.int 4096))) (mVar 6)) mNil)) (mC (.int 2147483629))))
    (mAppend 3 (mOp gMod (mArgs gInt (mCons (mOp gAddA (mOp gFdiv (mOp gMulA (mVar 6) (mVar 6)) (mC (.int 4096))) (mOp gMulA (mVar 4) (mC (.int 7919)))) mNil)) (mC (.int 2147483629))))))
theorem mix_ok {p0 p1 s2 s6 s7 : Slot} {ds : List Int} {k c : Int} {S : Store} (hz : ds.length < 100000) : ∃ d m, 0 ≤ d ∧ B_mix [p0, p1, s2, .own (.lst (ds.map PV.int)), .val (.int k), .val (.int c), s6, s7] S = .ok (.nx [p0, p1, s2, .own (.lst ((ds ++ [d]).map PV.int)), .val (.int k), .val (.int c), .val (.int m), s7]) S := by
  have w1 : small64 48271 = true := by decide
  have w2 : small64 69621 = true := by decide
  have w3 : small64 7919 = true := by decide
  have e1 := Int.emod_nonneg (c * 48271 + k * 69621 + 11) (show (2147483647 : Int) ≠ 0 by decide)
  have e2 := Int.emod_lt_of_pos (c * 48271 + k * 69621 + 11) (show (0 : Int) < 2147483647 by decide)
  generalize hA : (c * 48271 + k * 69621 + 11) % 2147483647 = A at e1 e2
  have f1 := Int.emod_nonneg (A * A / 4096 + A) (show (2147483629 : Int) ≠ 0 by decide)
  have f2 := Int.emod_lt_of_pos (A * A / 4096 + A) (show (0 : Int) < 2147483629 by decide)
  generalize hB : (A * A / 4096 + A) % 2147483629 = B at f1 f2
  have sA : small64 A = true := small64_ok (by omega) (by omega)
  have sB : small64 B = true := small64_ok (by omega) (by omega)
  refine ⟨(B * B / 4096 + k * 7919) % 2147483629, B, Int.emod_nonneg _ (by decide), ?_⟩
  unfold B_mix
  simp only [ev_bind, ev_nox, ev_seq, ev_set, ev_setOwn, ev_share, ev_drop, ev_ret, ev_retOwn, ev_skip, ev_brk, ev_cnt, ev_ifS, ev_frzS, ev_append, ev_setIx, ev_for, ev_lc, ev_seqOf, ev_range, ev_var, ev_c, ev_op, ev_un, ev_args, ev_nil, ev_cons, ev_frz, ev_b, ev_and, ev_or, ev_not, ev_andV, ev_orV, ev_notV, ev_if, ev_chain, ev_isi, ev_ixOwn, ev_lenOwn, ev_call, ev_callK, ev_sl, ev_part, ev_true, ev_nm, ev_toB, frz, frzAt, toSeq_tup, toSeq_pt, toSeq_lst, toSeq_cl, toRet, mWipe, kbG, Mir.gTup, Mir.gLst, List.getElem?_cons_zero, List.getElem?_cons_succ, List.set_cons_zero, List.set_cons_succ, List.length_cons, List.length_nil, List.append_nil, List.nil_append, List.cons_append, Nat.reduceAdd, Nat.reduceLeDiff, Nat.reduceEqDiff, Nat.zero_add, reduceIte, Bool.false_eq_true, Bool.not_true, Bool.not_false, and_self, sizeM_eq, gAddA, gAdd, gMulA, gMul, Mir.gSub, gFdiv, gMod, gLt, gLe, gGt, geA_int, gLen, gInt, gAbs, gNeg, w1, w2, w3, Bool.or_true, hA, sA, hB, sB, show (0 : Int) < 2147483647 by decide, show (0 : Int) < 2147483629 by decide, show (0 : Int) < 4096 by decide, show (4096 : Int) < 1073741824 by decide, decide_true, Bool.and_self, Bool.true_or, List.length_map, hz, cat_map]
def B_turn : Rho → Store → Res Out :=
  (mSeq (mSet 5 (mVar 4))
    (mSeq (mIfS (mB (mOp gGt (mArgs gLen (mCons (mVar 0) mNil)) (mC (.int 0))))
    (mSeq (mSet 7 (mOp gMod (mVar 4) (mArgs gLen (mCons (mVar 0) mNil))))
    (mSeq (mSet 5 (mArgs gInt (mCons (mOp gIx (mVar 0) (mVar 7)) mNil)))
    (mIfS (mAnd (mB (mOp gGeA (mVar 5) (mOp gPow (mC (.int 10)) (mC (.int 18))))) (mB (mOp gGt (mIxOwn 2 (mVar 7)) (mC (.int 0)))))
    (mSeq (mAppend 3 (mOp gMod (mArgs gInt (mCons (mIxOwn 2 (mVar 7)) mNil)) (mC (.int 1000003))))
    (mSeq (mSetIx 2 (mVar 7) (mOp gFdiv (mArgs gInt (mCons (mIxOwn 2 (mVar 7)) mNil)) (mC (.int 1000003))))
    mCnt))
    mSkip)))
    mSkip)
    B_mix))
/-- what stands between two turns -/
def DrawInv (ns : List Int) (n : Nat) (S : Store) (pre : List PV) (ρ : Rho) (S' : Store) : Prop := ∃ (rs ds : List Int) (s4 s5 s6 s7 : Slot), ρ = [.val (.cl (ns.map PV.int)), .val (.int n), .own (.lst (rs.map PV.int)), .own (.lst (ds.map PV.int)), s4, s5, s6, s7] ∧ S' = S ∧ rs.length = ns.length ∧ ds.length = pre.length ∧ ∀ d ∈ ds, 0 ≤ d
theorem turn_ok {ns : List Int} {n : Nat} (hn : n ≤ 90000) {S S' : Store} {pre post : List PV} {x : PV} {ρ : Rho} (ex : (List.range n).map (fun (k : Nat) => PV.int (k : Int)) = pre ++ x :: post) (h : DrawInv ns n S pre ρ S') :
    ∃ ρ' S2, ((gNm 4 x ρ S').bind (fun ρ1 S1 => B_turn ρ1 S1) = .ok (.nx ρ') S2 ∨ (gNm 4 x ρ S').bind (fun ρ1 S1 => B_turn ρ1 S1) = .ok (.ct ρ') S2) ∧ DrawInv ns n S (pre ++ [x]) ρ' S2 := by
    obtain ⟨rs, ds, s4, s5, s6, s7, rfl, rfl, hr, hd, h0⟩ := h
    have hx : ∃ k : Nat, x = .int k := by
      have : x ∈ (List.range n).map fun (k : Nat) => PV.int (k : Int) := by rw [ex]; simp
      obtain ⟨k, _, rfl⟩ := List.mem_map.mp this
      exact ⟨k, rfl⟩
    obtain ⟨k, rfl⟩ := hx
    have hlen : pre.length < n := by
      have := congrArg List.length ex
      simp at this; omega
    have hz : ds.length < 100000 := by omega
    have add0 : ∀ v : Int, 0 ≤ v → ∀ d ∈ ds ++ [v], 0 ≤ d := fun v hv d hd => by
      rcases List.mem_append.mp hd with h | h
      · exact h0 d h
      · rw [List.mem_singleton.mp h]; exact hv
    by_cases he : ns.length = 0
    · obtain ⟨d, m, h1, h2⟩ := mix_ok (p0 := .val (.cl (ns.map PV.int))) (p1 := .val (.int n)) (s2 := .own (.lst (rs.map PV.int))) (s6 := s6) (s7 := s7) (k := (k : Int)) (c := (k : Int)) (S := S') hz
      refine ⟨_, S', .inl ?_, rs, ds ++ [d], .val (.int k), .val (.int k), .val (.int m), s7, rfl, rfl, hr, by simp [hd], add0 d h1⟩
      unfold B_turn
      simp only [ev_bind, ev_nox, ev_seq, ev_set, ev_setOwn, ev_share, ev_drop, ev_ret, ev_retOwn, ev_skip, ev_brk, ev_cnt, ev_ifS, ev_frzS, ev_append, ev_setIx, ev_for, ev_lc, ev_seqOf, ev_range, ev_var, ev_c, ev_op, ev_un, ev_args, ev_nil, ev_cons, ev_frz, ev_b, ev_and, ev_or, ev_not, ev_andV, ev_orV, ev_notV, ev_if, ev_chain, ev_isi, ev_ixOwn, ev_lenOwn, ev_call, ev_callK, ev_sl, ev_part, ev_true, ev_nm, ev_toB, frz, frzAt, toSeq_tup, toSeq_pt, toSeq_lst, toSeq_cl, toRet, mWipe, kbG, Mir.gTup, Mir.gLst, List.getElem?_cons_zero, List.getElem?_cons_succ, List.set_cons_zero, List.set_cons_succ, List.length_cons, List.length_nil, List.append_nil, List.nil_append, List.cons_append, Nat.reduceAdd, Nat.reduceLeDiff, Nat.reduceEqDiff, Nat.zero_add, reduceIte, Bool.false_eq_true, Bool.not_true, Bool.not_false, and_self, sizeM_eq, gAddA, gAdd, gMulA, gMul, Mir.gSub, gFdiv, gMod, gLt, gLe, gGt, geA_int, gLen, gInt, gAbs, gNeg, List.length_map, decide_eq_true_eq, show ¬ (0 : Int) < (ns.length : Int) by omega, decide_false, h2]
    · have hpos : (0 : Int) < ns.length := by omega
      have m1 := Int.emod_nonneg (k : Int) (show (ns.length : Int) ≠ 0 by omega)
      have m2 := Int.emod_lt_of_pos (k : Int) hpos
      generalize hA : (k : Int) % (ns.length : Int) = A at m1 m2
      obtain ⟨c, e1, _, _⟩ := atI_ints (ns := ns) m1 m2
      obtain ⟨r, e2, _, _⟩ := atI_ints (ns := rs) m1 (by omega)
      have p18 : cpow 10 18 = true := by decide
      have ix : ixN rs.length A = some A.toNat := ixN_ok m1 (by omega)
      obtain ⟨d, m, h1, h2⟩ := mix_ok (p0 := .val (.cl (ns.map PV.int))) (p1 := .val (.int n)) (s2 := .own (.lst (rs.map PV.int))) (s6 := s6) (s7 := .val (.int A)) (k := (k : Int)) (c := c) (S := S') hz
      by_cases hc : (10 : Int) ^ (18 : Int).toNat ≤ c
      · by_cases hr0 : 0 < r
        · refine ⟨_, S', .inr ?_, rs.set A.toNat (r / 1000003), ds ++ [r % 1000003], .val (.int k), .val (.int c), s6, .val (.int A), rfl, rfl, by simp [hr], by simp [hd], add0 _ (Int.emod_nonneg _ (by decide))⟩
          unfold B_turn
          simp only [ev_bind, ev_nox, ev_seq, ev_set, ev_setOwn, ev_share, ev_drop, ev_ret, ev_retOwn, ev_skip, ev_brk, ev_cnt, ev_ifS, ev_frzS, ev_append, ev_setIx, ev_for, ev_lc, ev_seqOf, ev_range, ev_var, ev_c, ev_op, ev_un, ev_args, ev_nil, ev_cons, ev_frz, ev_b, ev_and, ev_or, ev_not, ev_andV, ev_orV, ev_notV, ev_if, ev_chain, ev_isi, ev_ixOwn, ev_lenOwn, ev_call, ev_callK, ev_sl, ev_part, ev_true, ev_nm, ev_toB, frz, frzAt, toSeq_tup, toSeq_pt, toSeq_lst, toSeq_cl, toRet, mWipe, kbG, Mir.gTup, Mir.gLst, List.getElem?_cons_zero, List.getElem?_cons_succ, List.set_cons_zero, List.set_cons_succ, List.length_cons, List.length_nil, List.append_nil, List.nil_append, List.cons_append, Nat.reduceAdd, Nat.reduceLeDiff, Nat.reduceEqDiff, Nat.zero_add, reduceIte, Bool.false_eq_true, Bool.not_true, Bool.not_false, and_self, sizeM_eq, gAddA, gAdd, gMulA, gMul, Mir.gSub, gFdiv, gMod, gLt, gLe, gGt, geA_int, gLen, gInt, gAbs, gNeg, gIx, gPow, p18, setIx, ix, List.length_map, decide_eq_true_eq, hpos, decide_true, hA, e1, e2, hc, hr0, show (0 : Int) < 1000003 by decide, show (1000003 : Int) < 1073741824 by decide, Bool.and_self, hz, cat_map, set_map]
        · refine ⟨_, S', .inl ?_, rs, ds ++ [d], .val (.int k), .val (.int c), .val (.int m), .val (.int A), rfl, rfl, hr, by simp [hd], add0 d h1⟩
          unfold B_turn
          simp only [ev_bind, ev_nox, ev_seq, ev_set, ev_setOwn, ev_share, ev_drop, ev_ret, ev_retOwn, ev_skip, ev_brk, ev_cnt, ev_ifS, ev_frzS, ev_append, ev_setIx, ev_for, ev_lc, ev_seqOf, ev_range, ev_var, ev_c, ev_op, ev_un, ev_args, ev_nil, ev_cons, ev_frz, ev_b, ev_and, ev_or, ev_not, ev_andV, ev_orV, ev_notV, ev_if, ev_chain, ev_isi, ev_ixOwn, ev_lenOwn, ev_call, ev_callK, ev_sl, ev_part, ev_true, ev_nm, ev_toB, frz, frzAt, toSeq_tup, toSeq_pt, toSeq_lst, toSeq_cl, toRet, mWipe, kbG, Mir.gTup, Mir.gLst, List.getElem?_cons_zero, List.getElem?_cons_succ, List.set_cons_zero, List.set_cons_succ, List.length_cons, List.length_nil, List.append_nil, List.nil_append, List.cons_append, Nat.reduceAdd, Nat.reduceLeDiff, Nat.reduceEqDiff, Nat.zero_add, reduceIte, Bool.false_eq_true, Bool.not_true, Bool.not_false, and_self, sizeM_eq, gAddA, gAdd, gMulA, gMul, Mir.gSub, gFdiv, gMod, gLt, gLe, gGt, geA_int, gLen, gInt, gAbs, gNeg, gIx, gPow, p18, List.length_map, decide_eq_true_eq, hpos, decide_true, hA, e1, e2, hc, hr0, decide_false, h2]
      · refine ⟨_, S', .inl ?_, rs, ds ++ [d], .val (.int k), .val (.int c), .val (.int m), .val (.int A), rfl, rfl, hr, by simp [hd], add0 d h1⟩
        unfold B_turn
        simp only [ev_bind, ev_nox, ev_seq, ev_set, ev_setOwn, ev_share, ev_drop, ev_ret, ev_retOwn, ev_skip, ev_brk, ev_cnt, ev_ifS, ev_frzS, ev_append, ev_setIx, ev_for, ev_lc, ev_seqOf, ev_range, ev_var, ev_c, ev_op, ev_un, ev_args, ev_nil, ev_cons, ev_frz, ev_b, ev_and, ev_or, ev_not, ev_andV, ev_orV, ev_notV, ev_if, ev_chain, ev_isi, ev_ixOwn, ev_lenOwn, ev_call, ev_callK, ev_sl, ev_part, ev_true, ev_nm, ev_toB, frz, frzAt, toSeq_tup, toSeq_pt, toSeq_lst, toSeq_cl, toRet, mWipe, kbG, Mir.gTup, Mir.gLst, List.getElem?_cons_zero, List.getElem?_cons_succ, List.set_cons_zero, List.set_cons_succ, List.length_cons, List.length_nil, List.append_nil, List.nil_append, List.cons_append, Nat.reduceAdd, Nat.reduceLeDiff, Nat.reduceEqDiff, Nat.zero_add, reduceIte, Bool.false_eq_true, Bool.not_true, Bool.not_false, and_self, sizeM_eq, gAddA, gAdd, gMulA, gMul, Mir.gSub, gFdiv, gMod, gLt, gLe, gGt, geA_int, gLen, gInt, gAbs, gNeg, gIx, gPow, p18, List.length_map, decide_eq_true_eq, hpos, decide_true, hA, e1, e2, hc, decide_false, h2]
theorem draws_ok {ns : List Int} {n : Nat} (hn : n ≤ 90000) (hl : ns.length ≤ 1000) (S : Store) : ∃ ds : List Int, ds.length = n ∧ (∀ d ∈ ds, 0 ≤ d) ∧ mDef 8 B_draws [.cl (ns.map PV.int), .int n] S = .ok (.lst (ds.map PV.int)) S := by
  have lc : mLcGo (gNm 5) mTrue (mArgs gAbs (mCons (mArgs gInt (mCons (mVar 5) mNil)) mNil)) [.val (.cl (ns.map PV.int)), .val (.int n), .none, .none, .none, .none, .none, .none] (ns.map PV.int) S = .ok ((ns.map fun i => if i < 0 then -i else i).map PV.int) S := by
    have := lc_map (g := gNm 5) (t := mTrue) (a := mArgs gAbs (mCons (mArgs gInt (mCons (mVar 5) mNil)) mNil)) (ρ := [.val (.cl (ns.map PV.int)), .val (.int n), .none, .none, .none, .none, .none, .none]) (S := S) (xs := ns.map PV.int)
      (fun x => match x with | .int i => .int (if i < 0 then -i else i) | x => x) fun x hx => by
        obtain ⟨i, _, rfl⟩ := List.mem_map.mp hx
        exact ⟨_, rfl, rfl, rfl⟩
    rw [this, List.map_map, List.map_map]
    rfl
  obtain ⟨ρ', S', e, rs, ds, s4, s5, s6, s7, rfl, rfl, hr, hd, h0⟩ := for_inv (g := gNm 4) (b := B_turn) (xs := (List.range n).map fun (k : Nat) => PV.int (k : Int)) (DrawInv ns n S) (fun pre x post ρ S' ex h => turn_ok hn ex h) [.val (.cl (ns.map PV.int)), .val (.int n), .own (.lst ((ns.map fun i => if i < 0 then -i else i).map PV.int)), .own (.lst []), .none, .none, .none, .none] S ⟨_, [], _, _, _, _, rfl, rfl, by simp, rfl, fun d h => nomatch h⟩
  refine ⟨ds, by simpa using hd, h0, ?_⟩
  show (B_draws [.val (.cl (ns.map PV.int)), .val (.int n), .none, .none, .none, .none, .none, .none] _).bind toRet = _
  have r62 : range62 (n : Int) = true := range62_ok (by omega) (by omega)
  unfold B_draws
  simp only [ev_bind, ev_nox, ev_seq, ev_set, ev_setOwn, ev_share, ev_drop, ev_ret, ev_retOwn, ev_skip, ev_brk, ev_cnt, ev_ifS, ev_frzS, ev_append, ev_setIx, ev_for, ev_lc, ev_seqOf, ev_range, ev_var, ev_c, ev_op, ev_un, ev_args, ev_nil, ev_cons, ev_frz, ev_b, ev_and, ev_or, ev_not, ev_andV, ev_orV, ev_notV, ev_if, ev_chain, ev_isi, ev_ixOwn, ev_lenOwn, ev_call, ev_callK, ev_sl, ev_part, ev_true, ev_nm, ev_toB, frz, frzAt, toSeq_tup, toSeq_pt, toSeq_lst, toSeq_cl, toRet, mWipe, kbG, Mir.gTup, Mir.gLst, List.getElem?_cons_zero, List.getElem?_cons_succ, List.set_cons_zero, List.set_cons_succ, List.length_cons, List.length_nil, List.append_nil, List.nil_append, List.cons_append, Nat.reduceAdd, Nat.reduceLeDiff, Nat.reduceEqDiff, Nat.zero_add, reduceIte, Bool.false_eq_true, Bool.not_true, Bool.not_false, and_self, sizeM_eq, lc, List.length_map, show ns.length ≤ 100000 by omega, gRange1, r62, Int.toNat_natCast]
  unfold B_turn B_mix at e
  rw [e]
  simp only [ev_bind, ev_nox, ev_seq, ev_set, ev_setOwn, ev_share, ev_drop, ev_ret, ev_retOwn, ev_skip, ev_brk, ev_cnt, ev_ifS, ev_frzS, ev_append, ev_setIx, ev_for, ev_lc, ev_seqOf, ev_range, ev_var, ev_c, ev_op, ev_un, ev_args, ev_nil, ev_cons, ev_frz, ev_b, ev_and, ev_or, ev_not, ev_andV, ev_orV, ev_notV, ev_if, ev_chain, ev_isi, ev_ixOwn, ev_lenOwn, ev_call, ev_callK, ev_sl, ev_part, ev_true, ev_nm, ev_toB, frz, frzAt, toSeq_tup, toSeq_pt, toSeq_lst, toSeq_cl, toRet, mWipe, kbG, Mir.gTup, Mir.gLst, List.getElem?_cons_zero, List.getElem?_cons_succ, List.set_cons_zero, List.set_cons_succ, List.length_cons, List.length_nil, List.append_nil, List.nil_append, List.cons_append, Nat.reduceAdd, Nat.reduceLeDiff, Nat.reduceEqDiff, Nat.zero_add, reduceIte, Bool.false_eq_true, Bool.not_true, Bool.not_false, and_self, sizeM_eq]
end Mir
set_option maxHeartbeats 4000000
namespace Mir
open PySem L2
/-- a row -/
def rowP (r : List Int) : PV := .tup (r.map PV.int)
def Bits (r : List Int) : Prop := ∀ b ∈ r, b = 0 ∨ b = 1
/-- all rows of n values, ascending -/
def rowsE : Nat → List (List Int)
  | 0 => [[]]
  | n + 1 => (rowsE n).flatMap fun r => [r ++ [0], r ++ [1]]
theorem rowsE_len : ∀ n, (rowsE n).length = 2 ^ n
  | 0 => rfl
  | n + 1 => by
    have h := rowsE_len n
    have e : ∀ l : List (List Int), (l.flatMap fun r => [r ++ [0], r ++ [1]]).length = 2 * l.length := fun l => by
      induction l with
      | nil => rfl
      | cons x l ih => rw [List.flatMap_cons, List.length_append, ih]; simp; omega
    show ((rowsE n).flatMap _).length = _
    rw [e, h, Nat.pow_succ, Nat.mul_comm]
theorem rowsE_mem : ∀ {n} {r : List Int}, r ∈ rowsE n → r.length = n ∧ Bits r
  | 0, r, h => by
    have e : r = [] := by simpa [rowsE] using h
    subst e
    exact ⟨rfl, fun b h => nomatch h⟩
  | n + 1, r, h => by
    obtain ⟨r', h1, h2⟩ := List.mem_flatMap.mp (show r ∈ (rowsE n).flatMap fun r => [r ++ [0], r ++ [1]] from h)
    obtain ⟨h3, h4⟩ := rowsE_mem h1
    have h2' : r = r' ++ [0] ∨ r = r' ++ [1] := by simpa using h2
    have key : ∀ v : Int, (v = 0 ∨ v = 1) → Bits (r' ++ [v]) := fun v hv b hb => by
      rcases List.mem_append.mp hb with hb | hb
      · exact h4 b hb
      · rw [List.mem_singleton.mp hb]; exact hv
    rcases h2' with rfl | rfl
    · exact ⟨by simp [h3], key 0 (.inl rfl)⟩
    · exact ⟨by simp [h3], key 1 (.inr rfl)⟩
def B_longer : Rho → Store → Res Out :=
  (mSet 3 (mOp gAddA (mVar 3) (mFrz (mArgs gLst (mCons (mOp gAddA (mVar 4) (mArgs gTup (mCons (mC (.int 0)) mNil))) (mCons (mOp gAddA (mVar 4) (mArgs gTup (mCons (mC (.int 1)) mNil))) mNil))))))
def B_everyT : Rho → Store → Res Out :=
  (mSeq (mSet 3 (mFrz (mArgs gLst mNil)))
    (mSeq (mFor (mSeqOf (mVar 1)) (gNm 4)
    B_longer)
    (mSet 1 (mVar 3))))
def B_every : Rho → Store → Res Out :=
  (mSeq (mSet 1 (mFrz (mArgs gLst (mCons (mArgs gTup mNil) mNil))))
    (mSeq (mFor (mRange gRange1 (mCons (mVar 0) mNil)) (gNm 2)
    B_everyT)
    (mRet (mVar 1))))
theorem longer_ok {p0 p1 s2 s4 : Slot} {S : Store} {rs : List (List Int)} (hr : ∀ r ∈ rs, r.length ≤ 1000) (hz : 2 * rs.length ≤ 90000) :
    ∃ s4', mForGo (gNm 4) B_longer (rs.map rowP) [p0, p1, s2, .val (.lst []), s4] S = .ok (.nx [p0, p1, s2, .val (.lst ((rs.flatMap fun r => [r ++ [0], r ++ [1]]).map rowP)), s4']) S := by
  obtain ⟨ρ', S', e, L, s, hL, rfl, rfl⟩ := for_inv (g := gNm 4) (b := B_longer) (xs := rs.map rowP) (fun pre ρ S' => ∃ (L : List (List Int)) (s : Slot), pre = L.map rowP ∧ S' = S ∧ ρ = [p0, p1, s2, .val (.lst ((L.flatMap fun r => [r ++ [0], r ++ [1]]).map rowP)), s]) (by
    rintro pre x post ρ S' ex ⟨L, s, rfl, rfl, rfl⟩
    have hx : x ∈ rs.map rowP := by rw [ex]; simp
    obtain ⟨r, hr1, rfl⟩ := List.mem_map.mp hx
    have hl := hr r hr1
    have hlen : L.length < rs.length := by
      have := congrArg List.length ex
      simp at this; omega
    have el : ∀ l : List (List Int), (l.flatMap fun r => [r ++ [0], r ++ [1]]).length = 2 * l.length := fun l => by
      induction l with
      | nil => rfl
      | cons x l ih => rw [List.flatMap_cons, List.length_append, ih]; simp; omega
    refine ⟨_, S', .inl ?_, L ++ [r], .val (rowP r), by simp, rfl, rfl⟩
    unfold B_longer
    rw [List.flatMap_append, List.map_append]
    simp only [ev_bind, ev_nox, ev_seq, ev_set, ev_setOwn, ev_share, ev_drop, ev_ret, ev_retOwn, ev_skip, ev_brk, ev_cnt, ev_ifS, ev_frzS, ev_append, ev_setIx, ev_for, ev_lc, ev_seqOf, ev_range, ev_var, ev_c, ev_op, ev_un, ev_args, ev_nil, ev_cons, ev_frz, ev_b, ev_and, ev_or, ev_not, ev_andV, ev_orV, ev_notV, ev_if, ev_chain, ev_isi, ev_ixOwn, ev_lenOwn, ev_call, ev_callK, ev_sl, ev_part, ev_true, ev_nm, ev_toB, frz, frzAt, toSeq_tup, toSeq_pt, toSeq_lst, toSeq_cl, toRet, mWipe, kbG, Mir.gTup, Mir.gLst, List.getElem?_cons_zero, List.getElem?_cons_succ, List.set_cons_zero, List.set_cons_succ, List.length_cons, List.length_nil, List.append_nil, List.nil_append, List.cons_append, Nat.reduceAdd, Nat.reduceLeDiff, Nat.reduceEqDiff, Nat.zero_add, reduceIte, Bool.false_eq_true, Bool.not_true, Bool.not_false, and_self, sizeM_eq, gAddA, gAdd, gMulA, gMul, Mir.gSub, gFdiv, gMod, gLt, gLe, gGt, geA_int, gLen, gInt, gAbs, gNeg, rowP, List.length_map, show r.length + 1 ≤ 100000 by omega, el, show 2 * L.length + 2 ≤ 100000 by omega, List.flatMap_cons, List.flatMap_nil, List.map_cons, List.map_nil, List.map_append]) [p0, p1, s2, .val (.lst []), s4] S ⟨[], s4, rfl, rfl, rfl⟩
  have hL' : L = rs := by
    have inj : ∀ a b : List Int, rowP a = rowP b → a = b := fun a b h => by
      have h' : a.map PV.int = b.map PV.int := by
        unfold rowP at h; exact PV.tup.inj h
      exact List.map_inj_right (f := PV.int) (fun x y h => PV.int.inj h) |>.mp h'
    exact (List.map_inj_right (f := rowP) (fun x y h => inj x y h)).mp hL.symm
  subst hL'
  exact ⟨s, e⟩
theorem every_ok {n : Nat} (hn : n ≤ 15) (S : Store) : mDef 5 B_every [.int n] S = .ok (.lst ((rowsE n).map rowP)) S := by
  have pw : ∀ k : Nat, k ≤ 15 → 2 ^ k ≤ 32768 := fun k hk => by
    have : (2 : Nat) ^ k ≤ 2 ^ 15 := Nat.pow_le_pow_right (by decide) hk
    exact this
  obtain ⟨ρ', S', e, s2, s3, s4, rfl, rfl⟩ := for_inv (g := gNm 2) (b := B_everyT) (xs := (List.range n).map fun (k : Nat) => PV.int (k : Int)) (fun pre ρ S' => ∃ s2 s3 s4, S' = S ∧ ρ = [.val (.int n), .val (.lst ((rowsE pre.length).map rowP)), s2, s3, s4]) (by
    rintro pre x post ρ S' ex ⟨s2, s3, s4, rfl, rfl⟩
    have hlen : pre.length < n := by
      have := congrArg List.length ex
      simp at this; omega
    obtain ⟨s4', e⟩ := longer_ok (p0 := .val (.int n)) (p1 := .val (.lst ((rowsE pre.length).map rowP))) (s2 := .val x) (s4 := s4) (S := S') (rs := rowsE pre.length) (fun r hr => by have := (rowsE_mem hr).1; omega) (by rw [rowsE_len]; have := pw pre.length (by omega); omega)
    refine ⟨_, S', .inl ?_, .val x, .val (.lst ((rowsE (pre ++ [x]).length).map rowP)), s4', rfl, rfl⟩
    have el : (pre ++ [x]).length = pre.length + 1 := by simp
    rw [el]
    unfold B_everyT
    simp only [ev_bind, ev_nox, ev_seq, ev_set, ev_setOwn, ev_share, ev_drop, ev_ret, ev_retOwn, ev_skip, ev_brk, ev_cnt, ev_ifS, ev_frzS, ev_append, ev_setIx, ev_for, ev_lc, ev_seqOf, ev_range, ev_var, ev_c, ev_op, ev_un, ev_args, ev_nil, ev_cons, ev_frz, ev_b, ev_and, ev_or, ev_not, ev_andV, ev_orV, ev_notV, ev_if, ev_chain, ev_isi, ev_ixOwn, ev_lenOwn, ev_call, ev_callK, ev_sl, ev_part, ev_true, ev_nm, ev_toB, frz, frzAt, toSeq_tup, toSeq_pt, toSeq_lst, toSeq_cl, toRet, mWipe, kbG, Mir.gTup, Mir.gLst, List.getElem?_cons_zero, List.getElem?_cons_succ, List.set_cons_zero, List.set_cons_succ, List.length_cons, List.length_nil, List.append_nil, List.nil_append, List.cons_append, Nat.reduceAdd, Nat.reduceLeDiff, Nat.reduceEqDiff, Nat.zero_add, reduceIte, Bool.false_eq_true, Bool.not_true, Bool.not_false, and_self, sizeM_eq, gAddA, gAdd, gMulA, gMul, Mir.gSub, gFdiv, gMod, gLt, gLe, gGt, geA_int, gLen, gInt, gAbs, gNeg, e]
    rfl) [.val (.int n), .val (.lst ([[]].map rowP)), .none, .none, .none] S ⟨_, _, _, rfl, rfl⟩
  show (B_every [.val (.int n), .none, .none, .none, .none] _).bind toRet = _
  have r62 : range62 (n : Int) = true := range62_ok (by omega) (by omega)
  unfold B_every
  simp only [ev_bind, ev_nox, ev_seq, ev_set, ev_setOwn, ev_share, ev_drop, ev_ret, ev_retOwn, ev_skip, ev_brk, ev_cnt, ev_ifS, ev_frzS, ev_append, ev_setIx, ev_for, ev_lc, ev_seqOf, ev_range, ev_var, ev_c, ev_op, ev_un, ev_args, ev_nil, ev_cons, ev_frz, ev_b, ev_and, ev_or, ev_not, ev_andV, ev_orV, ev_notV, ev_if, ev_chain, ev_isi, ev_ixOwn, ev_lenOwn, ev_call, ev_callK, ev_sl, ev_part, ev_true, ev_nm, ev_toB, frz, frzAt, toSeq_tup, toSeq_pt, toSeq_lst, toSeq_cl, toRet, mWipe, kbG, Mir.gTup, Mir.gLst, List.getElem?_cons_zero, List.getElem?_cons_succ, List.set_cons_zero, List.set_cons_succ, List.length_cons, List.length_nil, List.append_nil, List.nil_append, List.cons_append, Nat.reduceAdd, Nat.reduceLeDiff, Nat.reduceEqDiff, Nat.zero_add, reduceIte, Bool.false_eq_true, Bool.not_true, Bool.not_false, and_self, sizeM_eq, gRange1, r62, Int.toNat_natCast]
  rw [show ((.val (.lst [.tup []]) : Slot)) = .val (.lst ([[]].map rowP)) from rfl, e]
  simp only [ev_bind, ev_nox, ev_seq, ev_set, ev_setOwn, ev_share, ev_drop, ev_ret, ev_retOwn, ev_skip, ev_brk, ev_cnt, ev_ifS, ev_frzS, ev_append, ev_setIx, ev_for, ev_lc, ev_seqOf, ev_range, ev_var, ev_c, ev_op, ev_un, ev_args, ev_nil, ev_cons, ev_frz, ev_b, ev_and, ev_or, ev_not, ev_andV, ev_orV, ev_notV, ev_if, ev_chain, ev_isi, ev_ixOwn, ev_lenOwn, ev_call, ev_callK, ev_sl, ev_part, ev_true, ev_nm, ev_toB, frz, frzAt, toSeq_tup, toSeq_pt, toSeq_lst, toSeq_cl, toRet, mWipe, kbG, Mir.gTup, Mir.gLst, List.getElem?_cons_zero, List.getElem?_cons_succ, List.set_cons_zero, List.set_cons_succ, List.length_cons, List.length_nil, List.append_nil, List.nil_append, List.cons_append, Nat.reduceAdd, Nat.reduceLeDiff, Nat.reduceEqDiff, Nat.zero_add, reduceIte, Bool.false_eq_true, Bool.not_true, Bool.not_false, and_self, sizeM_eq, List.length_map, List.length_range]
def numOf (r : List Int) : Int := r.foldl (fun n b => 2 * n + b) 0
end Mir
set_option maxHeartbeats 4000000
namespace Mir
open PySem L2
/-- small data: a text of it is no longer than 32 w + 30 -/
def Sm (x : PV) (w k : Nat) : Prop := ∃ d, toD x = some d ∧ PyData.showable d = true ∧ d.leavesShort 30 = true ∧ d.weight ≤ w ∧ d.depth ≤ k
theorem Sm.mono {x : PV} {w k w' k' : Nat} (h : Sm x w k) (h1 : w ≤ w') (h2 : k ≤ k') : Sm x w' k' := by
  obtain ⟨d, a, b, c, e, f⟩ := h
  exact ⟨d, a, b, c, Nat.le_trans e h1, Nat.le_trans f h2⟩
theorem sm_bit {b : Int} (h : b = 0 ∨ b = 1) : Sm (.int b) 1 0 := by
  rcases h with rfl | rfl
  · exact ⟨.int 0, rfl, by decide +kernel, by decide +kernel, by decide +kernel, by decide +kernel⟩
  · exact ⟨.int 1, rfl, by decide +kernel, by decide +kernel, by decide +kernel, by decide +kernel⟩
/-- lists of data -/
def SmAll (xs : List PV) (ds : List PyData) (w k : Nat) : Prop := toDs xs = some ds ∧ PyData.showableAll ds = true ∧ PyData.leavesShortAll 30 ds = true ∧ PyData.weightAll ds ≤ (w + 1) * xs.length ∧ PyData.depthAll ds ≤ k
theorem smAll {w k : Nat} : ∀ {xs : List PV}, (∀ x ∈ xs, Sm x w k) → ∃ ds, SmAll xs ds w k
  | [], _ => ⟨[], rfl, rfl, rfl, by simp [PyData.weightAll], by simp [PyData.depthAll]⟩
  | x :: xs, h => by
    obtain ⟨d, a1, a2, a3, a4, a5⟩ := h x List.mem_cons_self
    obtain ⟨ds, b1, b2, b3, b4, b5⟩ := smAll (xs := xs) fun y hy => h y (List.mem_cons_of_mem _ hy)
    refine ⟨d :: ds, ?_, ?_, ?_, ?_, ?_⟩
    · simp only [toDs, a1, b1]
    · simp only [PyData.showableAll, a2, b2, Bool.and_self]
    · simp only [PyData.leavesShortAll, a3, b3, Bool.and_self]
    · simp only [PyData.weightAll, List.length_cons]
      rw [Nat.mul_add, Nat.mul_one]
      omega
    · simp only [PyData.depthAll]
      omega
theorem sm_tup {xs : List PV} {w k : Nat} (h : ∀ x ∈ xs, Sm x w k) : Sm (.tup xs) ((w + 1) * xs.length) (k + 1) := by
  obtain ⟨ds, b1, b2, b3, b4, b5⟩ := smAll h
  refine ⟨.tuple ds, by simp only [toD, b1, Option.map_some], by simpa only [PyData.showable] using b2, by simpa only [PyData.leavesShort] using b3, by simpa only [PyData.weight] using b4, by simp only [PyData.depth]; omega⟩
theorem sm_repr {x : PV} {w k : Nat} (h : Sm x w k) (hw : w ≤ 3000) (hk : k ≤ 60) (S : Store) : ∃ s, gRepr [x] S = .ok (.str s) S := by
  obtain ⟨d, a, b, c, e, f⟩ := h
  refine ⟨d.shown, ?_⟩
  have hl := PyData.shown_le 30 (by omega) d c
  have hl2 : (30 + 2) * d.weight ≤ 32 * 3000 := Nat.mul_le_mul (Nat.le_refl _) (Nat.le_trans e hw)
  have ok : reprOk d = true := by
    unfold reprOk
    simp only [b, Bool.true_and, Bool.and_eq_true, decide_eq_true_eq]
    exact ⟨by rw [sizeM_eq]; omega, Nat.le_trans f hk⟩
  show (match toD x with | some d => (if reprOk d = true then Res.ok (PV.str d.shown) S else .bad) | none => .bad) = Res.ok (PV.str d.shown) S
  rw [a]
  simp only [ok, if_pos]
theorem eq_self (s : Str) (S : Store) : gEq false (.str s) (.str s) S = .ok (.bl true) S := by
  unfold gEq
  simp only [toV, scal, if_pos, decide_true, Bool.false_eq_true, if_false]
def colN (rows : List (List Int)) (j : Nat) : List Int := rows.map fun r => r.getD j 0
/-- the row that a table makes -/
def madeN (tb : List Int) (rows : List (List Int)) (size : Nat) : List Int := (List.range size).map fun j => tb.getD (numOf (colN rows j)).toNat 0
def isDat : PV → Bool
  | .obj _ => false
  | .dk _ _ => false
  | .ins _ _ _ => false
  | .fn _ => false
  | _ => true
def NoObj (v : PV) : Prop := isDat v = true
def isIntP : PV → Bool
  | .int _ => true
  | .bl _ => true
  | _ => false
def isBoolP : PV → Bool
  | .bl _ => true
  | _ => false
def isTupP : PV → Bool
  | .tup _ => true
  | .pt _ => true
  | _ => false
theorem isi_of {T : String} {v : PV} {p : PV → Bool} (h : NoObj v) (S : Store) (h0 : kitB "NoneType" T = some (p .non)) (h1 : ∀ b, kitB "bool" T = some (p (.bl b))) (h2 : ∀ i, kitB "int" T = some (p (.int i))) (h3 : ∀ x, kitB "str" T = some (p (.str x))) (h4 : ∀ x, kitB "tuple" T = some (p (.tup x))) (h5 : ∀ x, kitB "list" T = some (p (.lst x))) (h6 : ∀ x, kitB "list" T = some (p (.cl x))) (h7 : ∀ x, kitB "tuple" T = some (p (.pt x))) : gIsi T v S = .ok (.bl (p v)) S := by
  unfold gIsi
  cases v with
  | obj n => cases h
  | dk ks xs => cases h
  | ins c ns xs => cases h
  | fn x => cases h
  | non => simp only [tyP, h0]
  | bl b => simp only [tyP, h1 b]
  | int i => simp only [tyP, h2 i]
  | str x => simp only [tyP, h3 x]
  | tup x => simp only [tyP, h4 x]
  | lst x => simp only [tyP, h5 x]
  | cl x => simp only [tyP, h6 x]
  | pt x => simp only [tyP, h7 x]
theorem isi_int {v : PV} (h : NoObj v) (S : Store) : gIsi "int" v S = .ok (.bl (isIntP v)) S := isi_of h S (by decide +kernel) (fun _ => by show kitB "bool" "int" = some true; decide +kernel) (fun _ => by show kitB "int" "int" = some true; decide +kernel) (fun _ => by show kitB "str" "int" = some false; decide +kernel) (fun _ => by show kitB "tuple" "int" = some false; decide +kernel) (fun _ => by show kitB "list" "int" = some false; decide +kernel) (fun _ => by show kitB "list" "int" = some false; decide +kernel) (fun _ => by show kitB "tuple" "int" = some false; decide +kernel)
theorem isi_bool {v : PV} (h : NoObj v) (S : Store) : gIsi "bool" v S = .ok (.bl (isBoolP v)) S := isi_of h S (by decide +kernel) (fun _ => by show kitB "bool" "bool" = some true; decide +kernel) (fun _ => by show kitB "int" "bool" = some false; decide +kernel) (fun _ => by show kitB "str" "bool" = some false; decide +kernel) (fun _ => by show kitB "tuple" "bool" = some false; decide +kernel) (fun _ => by show kitB "list" "bool" = some false; decide +kernel) (fun _ => by show kitB "list" "bool" = some false; decide +kernel) (fun _ => by show kitB "tuple" "bool" = some false; decide +kernel)
theorem isi_tuple {v : PV} (h : NoObj v) (S : Store) : gIsi "tuple" v S = .ok (.bl (isTupP v)) S := isi_of h S (by decide +kernel) (fun _ => by show kitB "bool" "tuple" = some false; decide +kernel) (fun _ => by show kitB "int" "tuple" = some false; decide +kernel) (fun _ => by show kitB "str" "tuple" = some false; decide +kernel) (fun _ => by show kitB "tuple" "tuple" = some true; decide +kernel) (fun _ => by show kitB "list" "tuple" = some false; decide +kernel) (fun _ => by show kitB "list" "tuple" = some false; decide +kernel) (fun _ => by show kitB "tuple" "tuple" = some true; decide +kernel)
theorem mapM_int : ∀ xs : List Int, (xs.map PV.int).mapM toI = some xs
  | [] => rfl
  | x :: xs => by
    rw [List.map_cons, List.mapM_cons, mapM_int xs]
    rfl
theorem at0 {α : Type} {x : α} {xs : List α} : atI (x :: xs) 0 = some x := by
  obtain ⟨hi, e⟩ := atI_ok (xs := x :: xs) (i := 0) (by omega) (by simp)
  rw [e]
  rfl
theorem atI_row {r : List Int} {j : Nat} (h : j < r.length) : atI (r.map PV.int) (j : Int) = some (.int (r.getD j 0)) := by
  obtain ⟨hi, e⟩ := atI_ok (xs := r.map PV.int) (i := (j : Int)) (by omega) (by simpa using h)
  rw [e]
  simp [List.getD_eq_getElem?_getD, List.getElem?_eq_getElem h]
end Mir
set_option maxHeartbeats 4000000
namespace Mir
open PySem L2
section
variable {α β : Type} {ρ : Rho} {S : Store} {f : Rho → Store → Res Out} {a b : Rho → Store → Res PV} {as : Rho → Store → Res (List PV)} {n : Rho → Store → Res SO} {i j : Nat}
theorem ev_bindExc {c : Str} {fs : List (Str × PV)} {k : α → Store → Res β} : (Res.exc c fs S : Res α).bind k = .exc c fs S := nrfl rfl
theorem ev_asg {g : PV → Rho → Store → Res Rho} : mAsg a g ρ S = (a ρ S).bind fun x S1 => (g x ρ S1).bind fun ρ' S2 => .ok (.nx ρ') S2 := nrfl rfl
theorem ev_unTup {k : Nat} {g : List PV → Rho → Store → Res Rho} {xs : List PV} : gUn k g (.tup xs) ρ S = if xs.length = k then g xs ρ S else .bad := nrfl rfl
theorem ev_unLst {k : Nat} {g : List PV → Rho → Store → Res Rho} {xs : List PV} : gUn k g (.lst xs) ρ S = if xs.length = k then g xs ρ S else .bad := nrfl rfl
theorem ev_tupM {k : Nat} {g : List PV → Rho → Store → Res Rho} {xs : List PV} : gTupM k g (.tup xs) ρ S = if xs.length = k then g xs ρ S else .bad := nrfl rfl
theorem ev_gsCons {h : PV → Rho → Store → Res Rho} {g : List PV → Rho → Store → Res Rho} {x : PV} {xs : List PV} : gsCons h g (x :: xs) ρ S = (h x ρ S).bind fun ρ' S' => g xs ρ' S' := nrfl rfl
theorem ev_gsNil : gsNil [] ρ S = .ok ρ S := nrfl rfl
theorem ev_raise {c : Str} {flds : List Str} : mRaise c flds as ρ S = (as ρ S).bind fun xs S1 => if xs.length = flds.length then .exc c (flds.zip xs) S1 else .bad := nrfl rfl
/-- what a try gives of what its body gives -/
def tryR (i k : Nat) (hs : List Hd) : Res Out → Res Out
  | .exc c fv S1 => mHds false i hs c fv (List.replicate k Slot.none) S1
  | r => r
theorem ev_tryL {k : Nat} {hs : List Hd} : mTryL i k f hs ρ S = tryR i k hs (f ρ S) := by
  unfold mTryL tryR
  cases f ρ S <;> rfl
theorem ev_tryOk {k : Nat} {hs : List Hd} {o : Out} : tryR i k hs (.ok o S) = .ok o S := nrfl rfl
theorem ev_tryExc {k : Nat} {hs : List Hd} {c : Str} {fv : List (Str × PV)} : tryR i k hs (.exc c fv S) = mHds false i hs c fv (List.replicate k Slot.none) S := nrfl rfl
def tryB (i : Nat) (hs : List Hd) (ρ : Rho) : Res Out → Res Out
  | .exc c fv S1 => if i < ρ.length then mHds true i hs c fv (clr ρ) S1 else .bad
  | r => r
theorem ev_tryB {hs : List Hd} : mTryB i f hs ρ S = tryB i hs ρ (f ρ S) := by
  unfold mTryB tryB
  cases f ρ S <;> rfl
theorem ev_tryBOk {hs : List Hd} {o : Out} : tryB i hs ρ (.ok o S) = .ok o S := nrfl rfl
theorem ev_tryBExc {hs : List Hd} {c : Str} {fv : List (Str × PV)} : tryB i hs ρ (.exc c fv S) = if i < ρ.length then mHds true i hs c fv (clr ρ) S else .bad := nrfl rfl
theorem endS_rtE {all : Bool} {x : PV} : endS all i (.ok (.rt x) S) = .ok (.rt x) S := nrfl rfl
theorem endS_nxE : endS true i (.ok (.nx ρ) S) = .ok (.nx (clr (ρ.set i .none))) S := nrfl rfl
theorem ev_kin {neg : Bool} {tbl : List (Str × PV)} : mKIn neg tbl a ρ S = (a ρ S).bind fun x S1 => match x with
  | .str z => .ok (.bl (if neg then !(tbl.lookup z).isSome else (tbl.lookup z).isSome)) S1
  | _ => .bad := nrfl rfl
theorem ev_kget {tbl : List (Str × PV)} : mKGet tbl a ρ S = (a ρ S).bind fun x S1 => match x with
  | .str z => (match tbl.lookup z with
    | some p => .ok p S1
    | none => .bad)
  | _ => .bad := nrfl rfl
theorem ev_index : mIndex a as ρ S = (a ρ S).bind fun x S1 => match x with
  | .lst xs => (as ρ S1).bind fun ys S2 => gIndex (.lst xs) ys S2
  | _ => .bad := nrfl rfl
end
theorem shaped_int (i : Int) : SeqAt.shaped (.int i) = true := rfl
theorem eqD_int (i j : Int) (S : Store) : gEqD false (.int i) (.int j) S = .ok (.bl (decide (i = j))) S := by
  rw [gEqD_else (by rintro ⟨_, _, h, _⟩; cases h)]
  unfold gEqDeep
  simp only [toD, shaped_int, Bool.and_self, if_pos, PyData.eqv, Bool.false_eq_true, if_false]
  congr 2
theorem neD_int (i j : Int) (S : Store) : gEqD true (.int i) (.int j) S = .ok (.bl (!decide (i = j))) S := by
  rw [gEqD_else (by rintro ⟨_, _, h, _⟩; cases h)]
  unfold gEqDeep
  simp only [toD, shaped_int, Bool.and_self, if_pos, PyData.eqv]
  congr 3
theorem eqD_str (a b : Str) (S : Store) : gEqD false (.str a) (.str b) S = .ok (.bl (decide (a = b))) S := rfl
theorem neD_str (a b : Str) (S : Store) : gEqD true (.str a) (.str b) S = .ok (.bl (!decide (a = b))) S := rfl
/-- rows are of a shape that can be asked -/
theorem toDs_ints : ∀ r : List Int, toDs (r.map PV.int) = some (r.map PyData.int)
  | [] => rfl
  | i :: r => by simp only [List.map_cons, toDs, toD, toDs_ints r]
theorem toD_row (r : List Int) : toD (rowP r) = some (.tuple (r.map PyData.int)) := by
  unfold rowP
  simp only [toD, toDs_ints, Option.map_some]
theorem lay_ints : ∀ r : List Int, PyData.canLayAll0 (r.map PyData.int) = true
  | [] => rfl
  | i :: r => by simp only [List.map_cons, PyData.canLayAll0, PyData.canLay0, lay_ints r, Bool.and_self]
theorem depth_ints : ∀ r : List Int, PyData.depthAll (r.map PyData.int) = 0
  | [] => by simp [PyData.depthAll]
  | i :: r => by simp only [List.map_cons, PyData.depthAll, PyData.depth, depth_ints r, Nat.max_self]
theorem shaped_row (r : List Int) : SeqAt.shaped (.tuple (r.map PyData.int)) = true := by
  unfold SeqAt.shaped
  simp only [PyData.canLay0, lay_ints, PyData.depth, depth_ints, Bool.true_and]
  rfl
theorem eqvAll_ints : ∀ r s : List Int, PyData.eqvAll (r.map PyData.int) (s.map PyData.int) = decide (r = s)
  | [], [] => rfl
  | [], _ :: _ => rfl
  | _ :: _, [] => rfl
  | i :: r, j :: s => by
    simp only [List.map_cons, PyData.eqvAll, PyData.eqv, eqvAll_ints r s]
    rw [Bool.eq_iff_iff]
    simp
end Mir
set_option maxHeartbeats 4000000
namespace Mir
open PySem L2
theorem sok_app {a b : Str} (h : PyData.strOk a = true) (g : PyData.strOk b = true) : PyData.strOk (a ++ b) = true := by
  unfold PyData.strOk at *
  show ((a.cps ++ b.cps).all _) = true
  rw [Array.all_append, h, g]
  rfl
theorem sok_lit (s : String) : PyData.strOk (s : Str) = true := by
  unfold PyData.strOk
  show (Str.ofString s).cps.all _ = true
  rw [Str.ofString_eq_toList]
  rw [Array.all_eq_true']
  intro x hx
  simp only [List.mem_toArray, List.mem_map] at hx
  obtain ⟨c, _, rfl⟩ := hx
  have h := c.valid
  have e : c.toNat = c.val.toNat := rfl
  simp only [UInt32.isValidChar, Nat.isValidChar] at h
  rw [decide_eq_true_eq, e]
  omega
theorem sok_join {sep : Str} (h : PyData.strOk sep = true) : ∀ {l : List Str}, (∀ x ∈ l, PyData.strOk x = true) → PyData.strOk (Str.join sep l) = true
  | [], _ => by simp only [Str.join]; decide +kernel
  | [x], g => g x List.mem_cons_self
  | x :: y :: r, g => sok_app (sok_app (g x List.mem_cons_self) h) (sok_join h fun z hz => g z (List.mem_cons_of_mem _ hz))
mutual
/-- data whose texts are told by plain signs -/
def plainD : PyData → Bool
  | .none | .bool _ | .int _ => true
  | .str x => PyData.strOk (PyData.str x).shown
  | .list xs | .tuple xs => plainDs xs
  | .dict _ => false
def plainDs : List PyData → Bool
  | [] => true
  | x :: xs => plainD x && plainDs xs
end
mutual
theorem sok_shown : ∀ d : PyData, plainD d = true → PyData.strOk d.shown = true
  | .none, _ => by rw [PyData.shown_none]; exact sok_lit _
  | .bool b, _ => by rw [PyData.shown_bool]; cases b <;> exact sok_lit _
  | .int i, _ => by rw [PyData.shown_int]; exact sok_lit _
  | .str x, h => by simpa only [plainD] using h
  | .list xs, h => by
    rw [PyData.shown_list]
    exact sok_app (sok_app (sok_lit _) (sok_join (sok_lit _) (sok_shownAll xs (by simpa only [plainD] using h)))) (sok_lit _)
  | .tuple xs, h => by
    rw [PyData.shown_tuple]
    refine sok_app (sok_app (sok_lit _) (sok_join (sok_lit _) (sok_shownAll xs (by simpa only [plainD] using h)))) ?_
    exact sok_lit _
  | .dict _, h => by simp [plainD] at h
theorem sok_shownAll : ∀ xs : List PyData, plainDs xs = true → ∀ t ∈ PyData.shownAll xs, PyData.strOk t = true
  | [], _, t, ht => by simp [PyData.shownAll_nil] at ht
  | x :: xs, h, t, ht => by
    simp only [plainDs, Bool.and_eq_true] at h
    rw [PyData.shownAll_cons] at ht
    rcases List.mem_cons.mp ht with rfl | ht
    · exact sok_shown x h.1
    · exact sok_shownAll xs h.2 t ht
end
theorem plainDs_of : ∀ {xs : List PyData}, (∀ x ∈ xs, plainD x = true) → plainDs xs = true
  | [], _ => rfl
  | x :: xs, h => by simp only [plainDs, h x List.mem_cons_self, plainDs_of fun y hy => h y (List.mem_cons_of_mem _ hy), Bool.and_self]
theorem toDs_get : ∀ {xs : List PV} {ds : List PyData}, toDs xs = some ds → ∀ d ∈ ds, ∃ x ∈ xs, toD x = some d
  | [], ds, h, d, hd => by simp only [toDs, Option.some.injEq] at h; subst h; cases hd
  | x :: xs, ds, h, d, hd => by
    simp only [toDs] at h
    cases h1 : toD x with
    | none => rw [h1] at h; cases h
    | some e =>
      cases h2 : toDs xs with
      | none => rw [h1, h2] at h; cases h
      | some es =>
        rw [h1, h2] at h
        simp only [Option.some.injEq] at h
        subst h
        rcases List.mem_cons.mp hd with rfl | hd
        · exact ⟨x, List.mem_cons_self, h1⟩
        · obtain ⟨y, hy, e⟩ := toDs_get h2 d hd
          exact ⟨y, List.mem_cons_of_mem _ hy, e⟩
/-- data whose text is told by plain signs, as a value -/
def Pln (x : PV) : Prop := ∀ d, toD x = some d → plainD d = true
theorem pln_int (i : Int) : Pln (.int i) := fun d h => by cases h; rfl
theorem pln_tup {xs : List PV} (h : ∀ x ∈ xs, Pln x) : Pln (.tup xs) := fun d hd => by
  simp only [toD, Option.map_eq_some_iff] at hd
  obtain ⟨ds, e, rfl⟩ := hd
  exact plainDs_of fun z hz => by
    obtain ⟨x, hx, ex⟩ := toDs_get e z hz
    exact h x hx z ex
theorem repr_pln {x : PV} (h : Pln x) {s : Str} {S : Store} (e : gRepr [x] S = .ok (.str s) S) : PyData.strOk s = true := by
  have e : (match toD x with | some d => (if reprOk d = true then Res.ok (PV.str d.shown) S else .bad) | none => .bad) = Res.ok (PV.str s) S := e
  cases q : toD x with
  | none => rw [q] at e; cases e
  | some d =>
    rw [q] at e
    simp only at e
    split at e
    · cases e
      exact sok_shown d (h d q)
    · cases e
end Mir
set_option maxHeartbeats 4000000
namespace Mir
open PySem PySem.Spec PyProof.Rows L2
section
variable {X : Cx} {G : Wd} {E : EK} {E1 : XK}
/-- a new object as a value: it is laid into the store -/
def mShr (f : Rho → Store → Res SO) : Rho → Store → Res PV := fun ρ S => (f ρ S).bind fun o S1 => .ok (.obj S1.length) (S1 ++ [o])
def keyP : PV → Option Key
  | .int i => some (.inl i)
  | .str x => some (.inr x)
  | _ => none
def valP : List Key → List PV → Key → Option PV
  | k0 :: ks, x :: xs, k => if k0 = k then some x else valP ks xs k
  | _, _, _ => none
def repP : List Key → List PV → Key → PV → List PV
  | k0 :: ks, x :: xs, k, y => (if k0 = k then y else x) :: repP ks xs k y
  | _, xs, _, _ => xs
/-- d[k] = y: the keys, the values -/
def putKs (ks : List Key) (k : Key) : List Key := if (ks.any fun z => decide (z = k)) = true then ks else ks ++ [k]
def putXs (ks : List Key) (xs : List PV) (k : Key) (y : PV) : List PV := if (ks.any fun z => decide (z = k)) = true then repP ks xs k y else xs ++ [y]
/-- d[k] = e, d a dict of ours, or one in the store -/
def setKO (n : Nat) (y : PV) (ρ : Rho) (z : PV) (S : Store) : Res Out := match keyP z with
  | some k => (match S[n]? with
    | some (.dk ks xs) => if ks.length < sizeM then .ok (.nx ρ) (S.set n (.dk (putKs ks k) (putXs ks xs k y))) else .bad
    | _ => .bad)
  | none => .bad
def setK (i : Nat) (ks : List Key) (xs : List PV) (y : PV) (ρ : Rho) (z : PV) (S : Store) : Res Out := match keyP z with
  | some k => if ks.length < sizeM then .ok (.nx (ρ.set i (.own (.dk (putKs ks k) (putXs ks xs k y))))) S else .bad
  | none => .bad
def mDPut (i : Nat) (fk f : Rho → Store → Res PV) : Rho → Store → Res Out := fun ρ S => (f ρ S).bind fun y S1 => match ρ[i]? with
  | some (.own (.dk ks xs)) => (fk ρ S1).bind fun k S2 => setK i ks xs y ρ k S2
  | some (.val (.obj n)) => (fk ρ S1).bind fun k S2 => setKO n y ρ k S2
  | _ => .bad
def mDisp (ks : List Key) (f : Rho → Store → Res (List PV)) : Rho → Store → Res SO := fun ρ S => (f ρ S).bind fun xs S1 => if xs.length = ks.length then .ok (.dk ks xs) S1 else .bad
end
end Mir
set_option maxHeartbeats 4000000
namespace PySem
open AutoSeq1 (wpAny_loadPart')
open Sem (wp)
section
variable {prog : Program} {w : World} {A : Around} {E : Value → Shared → Prop} {s : Shared}
end
end PySem
namespace L2
open PySem PySem.Spec PyProof.Rows
end L2
set_option maxHeartbeats 4000000
namespace HT
open PySem PyProof.Rows
section
variable {prog : Program} {w : World} {A : Around} {E : Value → Shared → Prop} {s : Shared}
end
end HT
namespace L2
open PySem PySem.Spec PyProof.Rows
section
variable {X : Cx}
end
end L2
set_option maxHeartbeats 4000000
namespace Mir
open PySem PySem.Spec PyProof.Rows L2
section
variable {X : Cx} {G : Wd} {E : EK} {E1 : XK} (K : PySem.W.Frag)
def zipP : List PV → List PV → List PV
  | x :: xs, y :: ys => .tup [x, y] :: zipP xs ys
  | _, _ => []
theorem zipP_get : ∀ {xs ys : List PV} {j : Nat} {z : PV}, (zipP xs ys)[j]? = some z → ∃ x y, xs[j]? = some x ∧ ys[j]? = some y ∧ z = .tup [x, y]
  | [], _, _, _, h => by simp [zipP] at h
  | _ :: _, [], _, _, h => by simp [zipP] at h
  | x :: xs, y :: ys, 0, z, h => by
    simp [zipP] at h
    exact ⟨x, y, rfl, rfl, h.symm⟩
  | x :: xs, y :: ys, j + 1, z, h => by
    have h : (zipP xs ys)[j]? = some z := h
    obtain ⟨a, b, h1, h2, h3⟩ := zipP_get h
    exact ⟨a, b, h1, h2, h3⟩
theorem zipP_len : ∀ {xs ys : List PV}, (zipP xs ys).length = min xs.length ys.length
  | [], _ => by simp [zipP]
  | _ :: _, [] => by simp [zipP]
  | x :: xs, y :: ys => by
    simp only [zipP, List.length_cons, zipP_len]
    omega
def gZip : List PV → Store → Res (List PV)
  | [.tup xs, .tup ys], S => .ok (zipP xs ys) S
  | [.lst xs, .lst ys], S => .ok (zipP xs ys) S
  | [.cl xs, .lst ys], S => .ok (zipP xs ys) S
  | [.lst xs, .cl ys], S => .ok (zipP xs ys) S
  | _, _ => .bad
theorem pair_put {K : PySem.W.Frag} {w : Wd} {T : Addr} {x y : PV} {v u : V} (k : WOk K w) (hT : w.H T = none) (rx : RV K w.L w.hc x v) (ry : RV K w.L w.hc y u) : RV K (w.put T (.tup [v, u])).L (w.put T (.tup [v, u])).hc (.tup [x, y]) (.ref T) :=
  ⟨T, [v, u], rfl, .inl (.inl (put_at k hT)), RVs.cons (rx.mono (List.prefix_refl _) (put_ext hT)) (RVs.cons (ry.mono (List.prefix_refl _) (put_ext hT)) rfl)⟩
theorem itok_zip {w1 : Wd} {a b : Addr} {xs ys : List PV} {vs us : List V} (ha : SqL K w1.hc a vs) (r : RVs K w1.L w1.hc xs vs) (hb : SqL K w1.hc b us) (r2 : RVs K w1.L w1.hc ys us) : ItOk K w1 (Itz K a b) (zipP xs ys) := fun i w' s k => by
  have h1 : SqL K w'.H a vs := hc_sqL (sqL_mono s.ext ha)
  have h2 : SqL K w'.H b us := hc_sqL (sqL_mono s.ext hb)
  refine ⟨fun x e => ?_, fun e => ⟨vs, us, h1, h2, by rw [r.len, r2.len]; rw [zipP_len] at e; omega⟩⟩
  obtain ⟨y, z, e1, e2, rfl⟩ := zipP_get e
  obtain ⟨v, g1, g2⟩ := (r.mono s.pre s.ext).get e1
  obtain ⟨u, g3, g4⟩ := (r2.mono s.pre s.ext).get e2
  refine ⟨⟨vs, us, v, u, h1, h2, g1, g3⟩, fun q H' hy => ?_⟩
  obtain ⟨T, p1, p2, rfl, hT, rfl, q1, q2⟩ := hy
  have e3 := q1 vs h1
  have e4 := q2 us h2
  rw [g1] at e3
  rw [g3] at e4
  cases e3
  cases e4
  exact ⟨w'.put T (.tup [v, u]), rfl, rfl, put_step k hT, put_ok k hT, pair_put k hT g2 g4⟩
theorem itok_zipT {w1 : Wd} {a b : Addr} {xs ys : List PV} {vs us : List V} (ha : SqT K w1.hc a vs) (r : RVs K w1.L w1.hc xs vs) (hb : SqT K w1.hc b us) (r2 : RVs K w1.L w1.hc ys us) : ItOk K w1 (RZ.ItzT K a b) (zipP xs ys) := fun i w' s k => by
  have h1 : SqT K w'.H a vs := hc_sqT (sqT_mono s.ext ha)
  have h2 : SqT K w'.H b us := hc_sqT (sqT_mono s.ext hb)
  refine ⟨fun x e => ?_, fun e => ⟨vs, us, h1, h2, by rw [r.len, r2.len]; rw [zipP_len] at e; omega⟩⟩
  obtain ⟨y, z, e1, e2, rfl⟩ := zipP_get e
  obtain ⟨v, g1, g2⟩ := (r.mono s.pre s.ext).get e1
  obtain ⟨u, g3, g4⟩ := (r2.mono s.pre s.ext).get e2
  refine ⟨⟨vs, us, v, u, h1, h2, g1, g3⟩, fun q H' hy => ?_⟩
  obtain ⟨T, p1, p2, rfl, hT, rfl, q1, q2⟩ := hy
  have e3 := q1 vs h1
  have e4 := q2 us h2
  rw [g1] at e3
  rw [g3] at e4
  cases e3
  cases e4
  exact ⟨w'.put T (.tup [v, u]), rfl, rfl, put_step k hT, put_ok k hT, pair_put k hT g2 g4⟩
theorem vs2 {L Hc} {x y : PV} {vs : List V} (r : RVs K L Hc [x, y] vs) : ∃ v u, vs = [v, u] ∧ RV K L Hc x v ∧ RV K L Hc y u := by
  obtain ⟨v, r1, rfl, h1, h2⟩ := r
  obtain ⟨u, r2, rfl, h3, h4⟩ := h2
  have h4 : r2 = [] := h4
  subst h4
  exact ⟨v, u, rfl, h1, h3⟩
theorem sim_zip {K : PySem.W.Frag} {mg ta fa} (h : ASim K mg G E ta fa) : ISim K mg G E (RZ.iZipA K ta) (mRange gZip fa) := fun w ρ σ R I q => by
  refine h w ρ σ _ I (Good.imp (Good.bind1 q) (fun xs S1 h1 => ?_) fun _ _ _ h => h)
  intro w1 vs e1 s1 k1 r1
  match xs, h1, r1 with
  | [.tup xs, .tup ys], h1, r1 =>
    obtain ⟨v, u, rfl, ⟨a, us, rfl, r2, r3⟩, b, zs, rfl, r4, r5⟩ := vs2 K r1
    exact ⟨a, b, us, zs, rfl, .inr ⟨hc_sqT r2, hc_sqT r4, h1 w1 _ e1 s1 k1 (itok_zipT K r2 r3 r4 r5)⟩⟩
  | [.lst xs, .lst ys], h1, r1 =>
    obtain ⟨v, u, rfl, ⟨a, us, rfl, r2, r3⟩, b, zs, rfl, r4, r5⟩ := vs2 K r1
    have r2 : SqL K w1.hc a us := .inl (.inl r2)
    have r4 : SqL K w1.hc b zs := .inl (.inl r4)
    exact ⟨a, b, us, zs, rfl, .inl ⟨hc_sqL r2, hc_sqL r4, h1 w1 _ e1 s1 k1 (itok_zip K r2 r3 r4 r5)⟩⟩
  | [.cl xs, .lst ys], h1, r1 =>
    obtain ⟨v, u, rfl, ⟨a, us, rfl, r2, r3⟩, b, zs, rfl, r4, r5⟩ := vs2 K r1
    have r4 : SqL K w1.hc b zs := .inl (.inl r4)
    exact ⟨a, b, us, zs, rfl, .inl ⟨hc_sqL r2, hc_sqL r4, h1 w1 _ e1 s1 k1 (itok_zip K r2 r3 r4 r5)⟩⟩
  | [.lst xs, .cl ys], h1, r1 =>
    obtain ⟨v, u, rfl, ⟨a, us, rfl, r2, r3⟩, b, zs, rfl, r4, r5⟩ := vs2 K r1
    have r2 : SqL K w1.hc a us := .inl (.inl r2)
    exact ⟨a, b, us, zs, rfl, .inl ⟨hc_sqL r2, hc_sqL r4, h1 w1 _ e1 s1 k1 (itok_zip K r2 r3 r4 r5)⟩⟩
theorem lexGe_at (ns ms : List Int) : ∀ (k i : Nat), i + k = min ns.length ms.length → Ob.lexAt (fun j => decide (ns.getD j 0 = ms.getD j 0)) (fun j => decide (ms.getD j 0 ≤ ns.getD j 0)) (decide (ns.length ≥ ms.length)) i k = lexGe (ns.drop i) (ms.drop i)
  | 0, i, h => by
    rw [Ob.lexAt_zero]
    by_cases h1 : ms.length ≤ ns.length
    · have : ms.drop i = [] := List.drop_eq_nil_of_le (by omega)
      rw [this]
      cases ns.drop i <;> simp [lexGe, h1]
    · have e1 : ns.drop i = [] := List.drop_eq_nil_of_le (by omega)
      have hi : i < ms.length := by omega
      rw [e1, List.drop_eq_getElem_cons hi]
      simp [lexGe, h1]
  | k + 1, i, h => by
    have hn : i < ns.length := by omega
    have hm : i < ms.length := by omega
    rw [Ob.lexAt_succ, List.drop_eq_getElem_cons hn, List.drop_eq_getElem_cons hm, lexGe_at ns ms k (i + 1) (by omega)]
    have e1 : ns.getD i 0 = ns[i] := by rw [List.getD_eq_getElem?_getD, List.getElem?_eq_getElem hn]; rfl
    have e2 : ms.getD i 0 = ms[i] := by rw [List.getD_eq_getElem?_getD, List.getElem?_eq_getElem hm]; rfl
    simp only [e1, e2, lexGe, decide_eq_true_eq]
def rGeT (K : PySem.W.Frag) : R2 := fun x y H Q => ∃ (a b : Addr) (ns ms : List Int), x = .ref a ∧ y = .ref b ∧ SqT K H a (ns.map V.int) ∧ SqT K H b (ms.map V.int) ∧ Q (.bl (lexGe ns ms)) H
theorem op_geT (hu : X.A.units < cLine) : OpR X (compareOp .GtE) (rGeT X.K) := by
  intro pins s σ H x y v u Q I rx ry h
  obtain ⟨a, b, ns, ms, rfl, rfl, ha, hb, q⟩ := h
  cases rx
  cases ry
  obtain ⟨us, r1, p1, _⟩ := I.tuple ha
  obtain ⟨us2, r2, p2, _⟩ := I.tuple hb
  have i1 : IntsAre us ns := Vals.ints r1
  have i2 : IntsAre us2 ms := Vals.ints r2
  have z1 : us.toArray.size = ns.length := by rw [List.size_toArray]; exact i1.length
  have z2 : us2.toArray.size = ms.length := by rw [List.size_toArray]; exact i2.length
  have at1 : ∀ j (h1 : j < us.toArray.size), ∃ t, us.toArray[j] = .int (ns.getD j 0) t := fun j h1 => PyProof.Rows.IntsAre.int_at i1 _ _ (by simp at h1; simp [h1])
  have at2 : ∀ j (h1 : j < us2.toArray.size), ∃ t, us2.toArray[j] = .int (ms.getD j 0) t := fun j h1 => PyProof.Rows.IntsAre.int_at i2 _ _ (by simp at h1; simp [h1])
  have R := Ob.RcOp.tuples_ge (A := X.A) (s := s) (e := fun j => decide (ns.getD j 0 = ms.getD j 0)) (r := fun j => decide (ms.getD j 0 ≤ ns.getD j 0)) p1 p2 hu (fun j h1 h2 => by
    obtain ⟨t, et⟩ := at1 j h1
    obtain ⟨t2, et2⟩ := at2 j h2
    rw [et, et2]
    have z : (ns.getD j 0 == ms.getD j 0) = decide (ns.getD j 0 = ms.getD j 0) := by
      by_cases q : ns.getD j 0 = ms.getD j 0
      · rw [decide_eq_true q]; exact beq_iff_eq.mpr q
      · rw [decide_eq_false q]; exact beq_eq_false_iff_ne.mpr q
    rw [← z]
    exact SeqAt.EqAt.int_int _ _ _ _) (fun j h1 h2 _ => by
    obtain ⟨t, et⟩ := at1 j h1
    obtain ⟨t2, et2⟩ := at2 j h2
    rw [et, et2]
    exact Ob.RcOp.ge_int _ _ _ _)
  rw [z1, z2, lexGe_at ns ms _ 0 (by omega), List.drop_zero, List.drop_zero] at R
  exact (R X.prog X.w X.xe (EP X pins σ Q) ⟨.bl _, H, I, rfl, q⟩ : wpAny (model X.prog X.w) X.A (compareOp .GtE (.ref a) (.ref b)) (EP X pins σ Q) X.xe s)
abbrev rGeA (K : PySem.W.Frag) : R2 := fun x y H Q => rI0 (fun i j => .bl (decide (j ≤ i))) x y H Q ∨ rGeT K x y H Q
theorem op_geA (hu : X.A.units + 200 < cLine) : OpR X (compareOp .GtE) (rGeA X.K) := op_ge.or (op_geT (by omega))
theorem kGe (hu : X.A.units + 200 < cLine) (h : X.K = K := by rfl) : OpR X (compareOp .GtE) (rGeA K) := h ▸ op_geA hu
theorem r2_geA {K mg} {E : XK} : R2Sim K mg E (rGeA K) gGeA := fun w x y v u Q k rx ry g => by
  by_cases ht : ∃ xs ys, x = .tup xs ∧ y = .tup ys
  · obtain ⟨xs, ys, rfl, rfl⟩ := ht
    have g : Good (match xs.mapM toI, ys.mapM toI with
      | some ns, some ms => Res.ok (.bl (lexGe ns ms)) w.S
      | _, _ => .bad) (PostV K w Q) (ExP K mg E w) := g
    obtain ⟨a, vs, rfl, r1, r2⟩ := rx
    obtain ⟨b, us, rfl, r3, r4⟩ := ry
    cases e1 : xs.mapM toI with
    | none => rw [e1] at g; exact g.elim
    | some ns =>
      cases e2 : ys.mapM toI with
      | none => rw [e1, e2] at g; exact g.elim
      | some ms =>
        rw [e1, e2] at g
        refine .inr ⟨a, b, ns, ms, rfl, rfl, ?_, ?_, post_self k g rfl rfl⟩
        · rw [← toIs_rv e1 r2]; exact hc_sqT r1
        · rw [← toIs_rv e2 r4]; exact hc_sqT r3
  · refine .inl (r2_ge (mg := mg) (E := E) w x y v u Q k rx ry ?_)
    have e : gGeA x y w.S = gGe x y w.S := by
      cases x <;> cases y <;> first | rfl | exact absurd ⟨_, _, rfl, rfl⟩ ht
    rw [← e]
    exact g
theorem op_notInT (hu : X.A.units + 65 < cLine) : OpR X (compareOp .NotIn) (rInT X.K true) := fun pins s σ H x y v u Q I rx ry ⟨d, ds, hd, he, sd, se, q⟩ => by
  obtain ⟨as, r1⟩ := Dp.reads I d x v hd rx
  obtain ⟨bs, r2⟩ := Dp.reads I (.tuple ds) y u he ry
  exact SeqAt.notIn_tuple_reads r2 r1 (by have := SeqAt.canLay_of_shaped se; simpa only [PyData.canLay0] using this) (SeqAt.canLay_of_shaped sd) (room_in_shaped sd hu) ⟨.bl _, H, I, rfl, q⟩
abbrev rNotInA (K : PySem.W.Frag) : R2 := fun x y H Q => rNotInD K x y H Q ∨ rInT K true x y H Q
theorem kNotInD (hu : X.A.units + 200 < cLine) (h : X.K = K := by rfl) : OpR X (compareOp .NotIn) (rNotInA K) := h ▸ (op_notInD (by omega)).or (op_notInT (by omega))
theorem r2_notInA {K mg} {E : XK} : R2Sim K mg E (rNotInA K) (gInD true) := fun w x y v u Q k rx ry g => by
  unfold gInD at g
  split at g
  · rename_i d ds h1 h2
    obtain ⟨c, g⟩ := good_if g
    obtain ⟨c1, c2⟩ := He.ba c
    exact .inl ⟨d, ds, toD_dp (fun a o h => (cut_some h).2) h1 rx, toD_dp (fun a o h => (cut_some h).2) h2 ry, c1, c2, g w _ rfl (WStep.refl k.sub) k rfl⟩
  · rename_i d ds h1 h2
    obtain ⟨c, g⟩ := good_if g
    obtain ⟨c1, c2⟩ := He.ba c
    exact .inr ⟨d, ds, toD_dp (fun a o h => (cut_some h).2) h1 rx, toD_dp (fun a o h => (cut_some h).2) h2 ry, c1, c2, g w _ rfl (WStep.refl k.sub) k rfl⟩
  · exact g.elim
/-- a value's truth: bools, lists, tuples -/
def gTru : PV → Store → Res Bool
  | .bl b, S => .ok b S
  | .non, S => .ok false S
  | .int i, S => .ok (i != 0) S
  | .tup xs, S => .ok (!xs.isEmpty) S
  | .lst xs, S => .ok (!xs.isEmpty) S
  | .cl xs, S => .ok (!xs.isEmpty) S
  | _, _ => .bad
def mTru (f : Rho → Store → Res PV) : Rho → Store → Res Bool := fun ρ S => (f ρ S).bind gTru
theorem emp_len {α β : Type} {xs : List α} {ys : List β} (h : ys.length = xs.length) : (!ys.isEmpty) = !xs.isEmpty := by
  cases xs <;> cases ys <;> first | rfl | cases h
def tTru (K : PySem.W.Frag) (te : TE) : TT := fun σ H Q => te σ H fun x H' => ∃ k, TruV K x H' k ∧ Q k H'
theorem ft_tru {e te f} (h : FE X G E e te f) (hK : X.K = K := by rfl) (he : ∀ whole, isTrue e X.env whole = (do let v ← whole; standAt e.pos; holding [v] (truthy v)) := by intro _; rfl) :
    FT X G E e (tTru K te) (mTru f) := by
  subst hK
  exact ⟨pt_truth h.pe he, fun w ρ σ Q I q => by
    refine h.sim w ρ σ _ I (Good.imp (Good.bind1 q) (fun x S1 h1 => ?_) fun _ _ _ h => h)
    intro w1 v e1 s1 k1 r1
    cases x <;> first | exact h1.elim | skip
    · have r1 : v = .non := r1
      subst r1
      exact ⟨false, rfl, h1 w1 e1 s1 k1⟩
    · rename_i b
      have r1 : v = .bl b := r1
      subst r1
      exact ⟨b, rfl, h1 w1 e1 s1 k1⟩
    · rename_i i
      have r1 : v = .int i := r1
      subst r1
      exact ⟨_, rfl, h1 w1 e1 s1 k1⟩
    · obtain ⟨a, vs, rfl, r2, r3⟩ := r1
      exact ⟨_, .inr (.inl ⟨vs, hc_sqT r2, (emp_len r3.len).symm⟩), h1 w1 e1 s1 k1⟩
    · obtain ⟨a, vs, rfl, r2, r3⟩ := r1
      exact ⟨_, .inl ⟨vs, .inl (.inl (hc_lst r2)), (emp_len r3.len).symm⟩, h1 w1 e1 s1 k1⟩
    · obtain ⟨a, vs, rfl, r2, r3⟩ := r1
      exact ⟨_, .inl ⟨vs, hc_sqL r2, (emp_len r3.len).symm⟩, h1 w1 e1 s1 k1⟩⟩
end
end Mir
set_option maxHeartbeats 4000000
namespace Mir
open PySem L2
section
variable {K : PySem.W.Frag} {mg : Str → Option Value} {E : XK} {X : Cx}
end
end Mir
set_option maxHeartbeats 4000000
namespace Mir
open PySem PySem.Spec PyProof.Rows L2
/-- n: how many items the first clause walks -/
def mLc2Go (n : Nat) (g : PV → Rho → Store → Res Rho) (t : Rho → Store → Res Bool) (it1 : Rho → Store → Res (List PV)) (g1 : PV → Rho → Store → Res Rho) (t1 : Rho → Store → Res Bool) (e : Rho → Store → Res PV) (vs1 : List Nat) (ρ : Rho) : List PV → Store → Res (List PV)
  | [], S => .ok [] S
  | x :: xs, S => (g x ρ S).nox.bind fun ρ1 S1 => (t ρ1 S1).nox.bind fun k S2 => if k then (it1 ρ1 S2).nox.bind fun ys S3 => if ys.length * n ≤ sizeM then (mLcGo g1 t1 e (mWipe ρ1 vs1) ys S3).nox.bind fun zs S4 => (mLc2Go n g t it1 g1 t1 e vs1 ρ xs S4).bind fun us S5 => .ok (zs ++ us) S5 else .bad else mLc2Go n g t it1 g1 t1 e vs1 ρ xs S2
def mLc2 (it : Rho → Store → Res (List PV)) (g : PV → Rho → Store → Res Rho) (t : Rho → Store → Res Bool) (it1 : Rho → Store → Res (List PV)) (g1 : PV → Rho → Store → Res Rho) (t1 : Rho → Store → Res Bool) (e : Rho → Store → Res PV) (vs vs1 : List Nat) : Rho → Store → Res SO := fun ρ S =>
  (it ρ S).bind fun xs S1 => (mLc2Go xs.length g t it1 g1 t1 e vs1 (mWipe ρ vs) xs S1).bind fun ys S2 => .ok (.lst ys) S2
theorem bound2 {a b l n i : Nat} (h1 : a * n ≤ i * sizeM) (h2 : l * n ≤ sizeM) (h3 : b ≤ a + l) : b * n ≤ (i + 1) * sizeM :=
  Nat.le_trans (Nat.mul_le_mul_right n h3) (by rw [Nat.add_mul, Nat.add_mul]; omega)
theorem bound3 {b n i : Nat} (h : b * n ≤ (i + 1) * sizeM) (hi : i < n) : b ≤ sizeM := by
  have h2 : b * n ≤ n * sizeM := Nat.le_trans h (Nat.mul_le_mul_right _ hi)
  rw [Nat.mul_comm n] at h2
  exact Nat.le_of_mul_le_mul_right h2 (by omega)
/-- a target makes no list of ours -/
def NoOwn (f : PV → Rho → Store → Res Rho) : Prop := ∀ x ρ S ρ' S', f x ρ S = .ok ρ' S' → ∀ (j : Nat) (o : SO), ρ'[j]? = some (.own o) → ρ[j]? = some (.own o)
theorem noOwn_nm {i : Nat} : NoOwn (gNm i) := fun x ρ S ρ' S' e j o h => by
  cases e
  by_cases q : i = j
  · subst q
    by_cases l : i < ρ.length
    · rw [List.getElem?_set_self l] at h; cases h
    · rw [List.getElem?_eq_none (by rw [List.length_set]; omega)] at h; cases h
  · rwa [List.getElem?_set_ne q] at h
theorem mWipe_own : ∀ {vs : List Nat} {ρ : Rho} {j : Nat} {o : SO}, (mWipe ρ vs)[j]? = some (.own o) → ρ[j]? = some (.own o) ∧ j ∉ vs
  | [], _, _, _, h => ⟨h, fun q => nomatch q⟩
  | v :: vs, ρ, j, o, h => by
    have h : ((mWipe ρ vs).set v .none)[j]? = some (.own o) := h
    by_cases q : v = j
    · subst q
      by_cases l : v < (mWipe ρ vs).length
      · rw [List.getElem?_set_self l] at h; cases h
      · rw [List.getElem?_eq_none (by rw [List.length_set]; omega)] at h; cases h
    · rw [List.getElem?_set_ne q] at h
      obtain ⟨a, b⟩ := mWipe_own h
      exact ⟨a, fun m => (List.mem_cons.mp m).elim (fun e => q e.symm) b⟩
theorem Good.eqn {α : Type} {r : Res α} {P : α → Store → Prop} {ex} (h : Good r P ex) : Good r (fun a S => r = .ok a S ∧ P a S) ex := by
  cases r with
  | ok a S => exact ⟨rfl, h⟩
  | exc c fs S => exact h
  | bad => exact h
theorem sim_lc2 {K : PySem.W.Frag} {mg : Str → Option Value} {G : Wd} {E : EK} {wi g tt wi1 g1 tt1 te vs vs1 fi fg ft fi1 fg1 ft1 fe} (hi : ISim K mg G E wi fi) (hno : NoOwn fg) (hg : GtSim K mg G g fg vs) (ht : TSim K mg G (fun _ => E0) tt ft) (hi1 : ISim K mg G (fun _ => E0) wi1 fi1) (hg1 : GtSim K mg G g1 fg1 vs1) (ht1 : TSim K mg G (fun _ => E0) tt1 ft1) (he : ESim K mg G (fun _ => E0) te fe) :
    NSim K mg G E (tLc2 wi g tt wi1 g1 tt1 te vs vs1) (mLc2 fi fg ft fi1 fg1 ft1 fe vs vs1) := fun w ρ σ Q I q => by
  refine hi w ρ σ _ I (Good.imp (Good.bind1 q) (fun xs S1 h1 => ?_) fun _ _ _ h => h)
  intro w1 J e1 s1 k1 it D hD
  subst e1
  have k2 := laid_ok (o := .lst []) k1 hD
  have s2 := laid_step (o := .lst []) k1 hD
  have hDL : D ∉ w1.L := k1.ninL hD
  have hDw : w.H D = none := by
    cases e : w.H D with
    | none => rfl
    | some o =>
      by_cases z : D ∈ w.L
      · exact absurd (s1.pre.subset z) hDL
      · rw [s1.keep D o e z] at hD; cases hD
  have I1 := I.step s1 k1
  have hGD : G.H D = none := by
    cases e : G.H D with
    | none => rfl
    | some o =>
      by_cases z : D ∈ G.L
      · exact absurd ((I.stp.pre.trans s1.pre).subset z) hDL
      · rw [I.stp.keep D o e z] at hDw; cases hDw
  have npO : ∀ (j : Nat) (o : SO), ρ[j]? = some (.own o) → ∀ p : Addr, σ[j]? = some (some (.ref p)) → p ≠ D := fun j o e p e2 z => by
    obtain ⟨p', a', b', _⟩ := I1.own j o e
    rw [a'] at e2
    cases e2
    rw [z] at b'
    exact k1.nin hD b'
  -- a frame over what is written at D
  have wrI : ∀ {ρ' : Rho} {σ' : L2.St} {w6 : Wd} {o : HO}, FI K G w6 ρ' σ' → WOk K (w6.wr D o) → D ∈ w6.O → (∀ (j : Nat) (o' : SO), ρ'[j]? = some (.own o') → ∀ p : Addr, σ'[j]? = some (some (.ref p)) → p ≠ D) → FI K G (w6.wr D o) ρ' σ' := fun {ρ' σ' w6 o} I6 k7 hO6 np => by
    refine ⟨I6.gok, k7, wr_step I6.stp hGD, I6.len, fun j x e => ?_, fun j o' e => ?_, I6.dis, fun j c fs e => ?_⟩
    · rw [wr_hc hO6]; exact I6.val j x e
    · rw [wr_hc hO6]
      obtain ⟨p, a, b, c, d, r⟩ := I6.own j o' e
      exact ⟨p, a, b, c, d, by show SOk K w6.L w6.hc (upd w6.H D _ p) o'; rw [upd_ne (np j o' e p a)]; exact r⟩
    · rw [wr_hc hO6]; exact I6.pin j c fs e
  refine ⟨fun i m H => ∃ w2 pacc acc, w2.H = H ∧ WStep w w2 ∧ WOk K w2 ∧ VStep w1 w2 ∧ D ∈ w2.O ∧ D ∉ w2.L ∧ w2.H D = some (.lst acc) ∧ RVs K w2.L w2.hc pacc acc ∧ acc.length * xs.length ≤ i * sizeM ∧ m + i = xs.length ∧ FI K G w2 (mWipe ρ vs) (wipe σ vs) ∧
    Good (mLc2Go xs.length fg ft fi1 fg1 ft1 fe vs1 (mWipe ρ vs) (xs.drop i) w2.S) (fun ys S' => PostN K w Q (.lst (pacc ++ ys)) S') (ExP K mg (E σ) w),
    ⟨xs.length, w1.laid D (.lst []), [], [], rfl, s1.tr s2 I.ok k1, k2, s2.v k1.sub, List.mem_cons_self, hDL, by show upd w1.H D _ D = _; rw [upd_same], rfl, by simp, rfl, (I1.step s2 k2).wipe vs, Good.bind1 h1⟩, ?_⟩
  rintro i m H2 ⟨w2, pacc, acc, rfl, s2', k2', v2, hO, hL, hD2, racc, hlen, em, I2, h2⟩
  by_cases hx : i < xs.length
  · have ed : xs.drop i = xs[i] :: xs.drop (i + 1) := (List.getElem_cons_drop hx).symm
    rw [ed] at h2
    obtain ⟨go, yl⟩ := (it i w2 v2 k2').1 xs[i] (List.getElem?_eq_getElem hx)
    refine .inr ⟨go, fun H' => ∃ w3 pacc acc, w3.H = H' ∧ WStep w w3 ∧ WOk K w3 ∧ VStep w1 w3 ∧ D ∈ w3.O ∧ D ∉ w3.L ∧ w3.H D = some (.lst acc) ∧ RVs K w3.L w3.hc pacc acc ∧ acc.length * xs.length ≤ (i + 1) * sizeM ∧ FI K G w3 (mWipe ρ vs) (wipe σ vs) ∧
      Good (mLc2Go xs.length fg ft fi1 fg1 ft1 fe vs1 (mWipe ρ vs) (xs.drop (i + 1)) w3.S) (fun ys S' => PostN K w Q (.lst (pacc ++ ys)) S') (ExP K mg (E σ) w), ?_, fun v H' hy => ?_⟩
    · rintro H' ⟨w3, p3, a3, c1, c2, c3, c4, c5, c6, c7, c8, c9, c10, c11⟩
      exact ⟨m - 1, by omega, w3, p3, a3, c1, c2, c3, c4, c5, c6, c7, c8, c9, by omega, c10, c11⟩
    · obtain ⟨w3, rfl, es, s3, k3, r3⟩ := yl v H' hy
      rw [← es] at h2
      have I3 := I2.step s3 k3
      have h3 := Good.nox (ex' := fun _ _ _ => False) (Good.bind1 h2)
      refine hg w3 _ _ xs[i] v _ I3 r3 (Good.imp (Good.eqn h3) (fun ρ4 S4 h4 => ?_) fun _ _ _ h => h)
      obtain ⟨eρ4, h4⟩ := h4
      intro σ4 e4 l4 f4 I4
      subst e4
      have wp := wipe_wipe σ σ4 vs (by rw [l4, wipe_length]) f4
      refine ⟨wp.1.trans wp.2, ?_⟩
      have h4' := Good.nox (ex' := ExP K mg E0 w3) (Good.bind1 h4)
      refine ht w3 ρ4 σ4 _ I4 (Good.imp h4' (fun b S5 h5 => ?_) fun _ _ _ h => h)
      intro w5 e5 s5 k5
      subst e5
      have s25 := s3.tr s5 k2' k3
      have hD5 : w5.H D = some (.lst acc) := s25.keep D _ hD2 hL
      have hO5 := s25.omono D hO
      have hL5 : D ∉ w5.L := fun z => by
        rcases s25.lset D z with y | y
        · exact hL y
        · rw [hD2] at y; cases y
      cases b with
      | false =>
        rw [if_neg Bool.false_ne_true] at h5 ⊢
        exact ⟨w5, pacc, acc, rfl, s2'.tr s25 I.ok k2', k5, v2.trans (s25.v k2'.sub), hO5, hL5, hD5, racc.mono s25.pre (s25.ext k2'.sub), Nat.le_trans hlen (Nat.mul_le_mul_right _ (Nat.le_succ i)), I2.step s25 k5, h5⟩
      | true =>
        rw [if_pos rfl] at h5 ⊢
        have I5 := I4.step s5 k5
        have h5' := Good.nox (ex' := ExP K mg E0 w5) (Good.bind1 h5)
        refine hi1 w5 ρ4 σ4 _ I5 (Good.imp h5' (fun ys S6 h6 => ?_) fun _ _ _ h => h)
        intro w6 J1 e6 s6 k6 it1
        subst e6
        obtain ⟨hb, h6⟩ := good_if h6
        have s26 := s25.tr s6 k2' k5
        have hD6 : w6.H D = some (.lst acc) := s6.keep D _ hD5 hL5
        have hO6 := s6.omono D hO5
        have hL6 : D ∉ w6.L := fun z => by
          rcases s6.lset D z with y | y
          · exact hL5 y
          · rw [hD5] at y; cases y
        have I6 := (I5.step s6 k6).wipe vs1
        have np4 : ∀ (j : Nat) (o' : SO), (mWipe ρ4 vs1)[j]? = some (.own o') → ∀ p : Addr, (wipe σ4 vs1)[j]? = some (some (.ref p)) → p ≠ D := fun j o' a p b => by
          obtain ⟨a1, a2⟩ := mWipe_own a
          have a3 := hno _ _ _ _ _ eρ4 j o' a1
          obtain ⟨a4, a5⟩ := mWipe_own a3
          rw [wipe_out a2, f4 j a5, wipe_out a5] at b
          exact npO j o' a4 p b
        have h6' := Good.nox (ex' := fun _ _ _ => False) (Good.bind1 h6)
        refine ⟨fun j k H => ∃ w7 pacc7 acc7, w7.H = H ∧ WStep w w7 ∧ WOk K w7 ∧ VStep w1 w7 ∧ VStep w6 w7 ∧ D ∈ w7.O ∧ D ∉ w7.L ∧ w7.H D = some (.lst acc7) ∧ RVs K w7.L w7.hc pacc7 acc7 ∧ acc7.length ≤ acc.length + j ∧ k + j = ys.length ∧ FI K G w7 (mWipe ρ vs) (wipe σ vs) ∧ FI K G w7 (mWipe ρ4 vs1) (wipe σ4 vs1) ∧
          Good (mLcGo fg1 ft1 fe (mWipe ρ4 vs1) (ys.drop j) w7.S) (fun zs S' => Good (mLc2Go xs.length fg ft fi1 fg1 ft1 fe vs1 (mWipe ρ vs) (xs.drop (i + 1)) S') (fun us S'' => PostN K w Q (.lst (pacc7 ++ (zs ++ us))) S'') (ExP K mg (E σ) w)) (fun _ _ _ => False),
          ⟨ys.length, w6, pacc, acc, rfl, s2'.tr s26 I.ok k2', k6, v2.trans (s26.v k2'.sub), VStep.refl _, hO6, hL6, hD6, racc.mono s26.pre (s26.ext k2'.sub), Nat.le_refl _, rfl, I2.step s26 k6, I6, ?_⟩, ?_⟩
        · refine Good.imp h6' (fun zs S7 h7 => ?_) fun _ _ _ h => h
          refine Good.imp (Good.bind1 h7) (fun us S8 h8 => ?_) fun _ _ _ h => h
          exact h8
        · rintro j k H7 ⟨w7, pacc7, acc7, rfl, s7, k7, v7, v67, hO7, hL7, hD7, racc7, hlen7, em7, J7, I7, h7⟩
          by_cases hj : j < ys.length
          · have ey : ys.drop j = ys[j] :: ys.drop (j + 1) := (List.getElem_cons_drop hj).symm
            rw [ey] at h7
            obtain ⟨go1, yl1⟩ := (it1 j w7 v67 k7).1 ys[j] (List.getElem?_eq_getElem hj)
            refine .inr ⟨go1, fun H' => ∃ w8 pacc8 acc8, w8.H = H' ∧ WStep w w8 ∧ WOk K w8 ∧ VStep w1 w8 ∧ VStep w6 w8 ∧ D ∈ w8.O ∧ D ∉ w8.L ∧ w8.H D = some (.lst acc8) ∧ RVs K w8.L w8.hc pacc8 acc8 ∧ acc8.length ≤ acc.length + (j + 1) ∧ FI K G w8 (mWipe ρ vs) (wipe σ vs) ∧ FI K G w8 (mWipe ρ4 vs1) (wipe σ4 vs1) ∧
              Good (mLcGo fg1 ft1 fe (mWipe ρ4 vs1) (ys.drop (j + 1)) w8.S) (fun zs S' => Good (mLc2Go xs.length fg ft fi1 fg1 ft1 fe vs1 (mWipe ρ vs) (xs.drop (i + 1)) S') (fun us S'' => PostN K w Q (.lst (pacc8 ++ (zs ++ us))) S'') (ExP K mg (E σ) w)) (fun _ _ _ => False), ?_, fun v1 H' hy1 => ?_⟩
            · rintro H' ⟨w8, p8, a8, c1, c2, c3, c4, c5, c6, c7, c8, c9, c10, c11, c12, c13⟩
              exact ⟨k - 1, by omega, w8, p8, a8, c1, c2, c3, c4, c5, c6, c7, c8, c9, c10, by omega, c11, c12, c13⟩
            · obtain ⟨w8, rfl, es8, s8, k8, r8⟩ := yl1 v1 H' hy1
              rw [← es8] at h7
              have I8 := I7.step s8 k8
              have h8 := Good.nox (ex' := fun _ _ _ => False) (Good.bind1 h7)
              refine hg1 w8 _ _ ys[j] v1 _ I8 r8 (Good.imp h8 (fun ρ9 S9 h9 => ?_) fun _ _ _ h => h)
              intro σ9 e9 l9 f9 I9
              subst e9
              have wp1 := wipe_wipe σ4 σ9 vs1 (by rw [l9, wipe_length]) f9
              refine ⟨wp1.1.trans wp1.2, ?_⟩
              have h9' := Good.nox (ex' := ExP K mg E0 w8) (Good.bind1 h9)
              refine ht1 w8 ρ9 σ9 _ I9 (Good.imp h9' (fun b S10 h10 => ?_) fun _ _ _ h => h)
              intro w10 e10 s10 k10
              subst e10
              have s710 := s8.tr s10 k7 k8
              cases b with
              | false =>
                rw [if_neg Bool.false_ne_true] at h10 ⊢
                have hD10 : w10.H D = some (.lst acc7) := s710.keep D _ hD7 hL7
                refine ⟨w10, pacc7, acc7, rfl, s7.tr s710 I.ok k7, k10, v7.trans (s710.v k7.sub), v67.trans (s710.v k7.sub), s710.omono D hO7, fun z => ?_, hD10, racc7.mono s710.pre (s710.ext k7.sub), by omega, J7.step s710 k10, I7.step s710 k10, h10⟩
                rcases s710.lset D z with y | y
                · exact hL7 y
                · rw [hD7] at y; cases y
              | true =>
                rw [if_pos rfl] at h10 ⊢
                have h10' := Good.nox (ex' := ExP K mg E0 w10) (Good.bind1 h10)
                refine he w10 ρ9 σ9 _ (I9.step s10 k10) (Good.imp h10' (fun y S11 h11 => ?_) fun _ _ _ h => h)
                intro w11 u e11 s11 k11 r11
                subst e11
                have s711 := s710.tr s11 k7 k10
                have hD11 : w11.H D = some (.lst acc7) := s711.keep D _ hD7 hL7
                have hL11 : D ∉ w11.L := fun z => by
                  rcases s711.lset D z with y | y
                  · exact hL7 y
                  · rw [hD7] at y; cases y
                have hO11 := s711.omono D hO7
                have v12 : VStep w11 (w11.wr D (.lst (acc7 ++ [u]))) := wr_v hO11
                have k12 := wr_ok (ho := .lst (acc7 ++ [u])) k11 hO11 hL11
                have hlt : acc7.length < sizeM := by
                  have b1 := bound3 (bound2 hlen hb (show acc.length + ys.length ≤ acc.length + ys.length from Nat.le_refl _)) hx
                  omega
                refine ⟨acc7, hD11, sizeM_le hlt, w11.wr D (.lst (acc7 ++ [u])), pacc7 ++ [y], acc7 ++ [u], rfl, wr_step (s7.tr s711 I.ok k7) hDw, k12, (v7.trans (s711.v k7.sub)).trans v12, (v67.trans (s711.v k7.sub)).trans v12, hO11, hL11, by show upd w11.H D _ D = _; rw [upd_same], ?_, by simp; omega, wrI (J7.step s711 k11) k12 hO11 (fun jj o' a p bb => ?_), wrI (I7.step s711 k11) k12 hO11 np4, ?_⟩
                · rw [wr_hc hO11]
                  exact RVs.append (racc7.mono s711.pre (s711.ext k7.sub)) (RVs.one r11)
                · obtain ⟨a4, a5⟩ := mWipe_own a
                  rw [wipe_out a5] at bb
                  exact npO jj o' a4 p bb
                · refine Good.imp (Good.bind1 h11) (fun zs S12 h12 => ?_) fun _ _ _ h => h
                  refine Good.imp h12 (fun us S13 h13 => ?_) fun _ _ _ h => h
                  rw [List.append_assoc]
                  exact h13
          · refine .inl ⟨(it1 j w7 v67 k7).2 (by omega), ?_⟩
            rw [List.drop_eq_nil_of_le (by omega)] at h7
            refine ⟨w7, pacc7, acc7, rfl, s7, k7, v7, hO7, hL7, hD7, racc7, bound2 hlen hb (by omega), J7, ?_⟩
            exact h7
  · refine .inl ⟨(it i w2 v2 k2').2 (by omega), ?_⟩
    rw [List.drop_eq_nil_of_le (by omega)] at h2
    have h2 : PostN K w Q (.lst (pacc ++ [])) w2.S := h2
    rw [List.append_nil] at h2
    exact h2 w2 D rfl s2' k2' hDw hO hL ⟨acc, hD2, racc⟩
theorem fs_lc2 {X : Cx} {G : Wd} {E : EK} {elt tg iter tg1 iter1 : Expr} {ifs ifs1 : List Expr} {scope : Scope} {pos spos py : Pos} {y : Str} {wi g tt wi1 g1 tt1 te fi fg ft fi1 fg1 ft1 fe} (i : Nat) (own : List (Str × Nat)) (vs1 : List Nat) (hc : X.calm = true) (hN : X.N.Nodup) (hy : X.N[i]? = some y) (hyl : X.env.scope.names.lookup y = some .local)
    (hsw : swapsWith (.ListComp elt [⟨tg, iter, ifs, 0⟩, ⟨tg1, iter1, ifs1, 0⟩] scope pos) (some (.Name y py)) spos.line X.env = pure true) (ok : BlkOk X.N X.env.scope scope own) (hv : ∀ (i : Nat), i ∈ vs1 → i ∈ own.map (·.2)) (hi : FIt X G E tg iter wi fi) (hno : NoOwn fg)
    (hg : ∀ (s : Shared) (H : Hp) (C : Addr) (cl : List (Str × Addr)) (fp : List Addr), FGt (X.blk s H scope (compEnvC scope cl C X.env) fp) G tg g fg (own.map (·.2)))
    (ht : ∀ (s : Shared) (H : Hp) (C : Addr) (cl : List (Str × Addr)) (fp : List Addr), FTs (X.blk s H scope (compEnvC scope cl C X.env) fp) G (fun _ => E0) ifs tt ft)
    (hi1 : ∀ (s : Shared) (H : Hp) (C : Addr) (cl : List (Str × Addr)) (fp : List Addr), FIt (X.blk s H scope (compEnvC scope cl C X.env) fp) G (fun _ => E0) tg1 iter1 wi1 fi1)
    (hg1 : ∀ (s : Shared) (H : Hp) (C : Addr) (cl : List (Str × Addr)) (fp : List Addr), FGt (X.blk s H scope (compEnvC scope cl C X.env) fp) G tg1 g1 fg1 vs1)
    (ht1 : ∀ (s : Shared) (H : Hp) (C : Addr) (cl : List (Str × Addr)) (fp : List Addr), FTs (X.blk s H scope (compEnvC scope cl C X.env) fp) G (fun _ => E0) ifs1 tt1 ft1)
    (he : ∀ (s : Shared) (H : Hp) (C : Addr) (cl : List (Str × Addr)) (fp : List Addr), FE (X.blk s H scope (compEnvC scope cl C X.env) fp) G (fun _ => E0) elt te fe) (hs : ∀ x, foldedSetIterable iter X.env x = pure x := by intro _; rfl) (hs1 : ∀ (env : Env) (x : Value), foldedSetIterable iter1 env x = pure x := by intro _ _; rfl) :
    FLcS X G E (.Assign [.Name y py] (.ListComp elt [⟨tg, iter, ifs, 0⟩, ⟨tg1, iter1, ifs1, 0⟩] scope pos) spos) i (tLc2 wi g tt wi1 g1 tt1 te (own.map (·.2)) vs1) (mLc2 fi fg ft fi1 fg1 ft1 fe (own.map (·.2)) vs1) :=
  ⟨ps_setLc2 hc hN hy hyl hsw hi.pe ok hv (fun s H C cl fp => (hg s H C cl fp).pe) (fun s H C cl fp => (ht s H C cl fp).pe) (fun s H C cl fp => (hi1 s H C cl fp).pe) (fun s H C cl fp => (hg1 s H C cl fp).pe) (fun s H C cl fp => (ht1 s H C cl fp).pe) (fun s H C cl fp => (he s H C cl fp).pe) hs hs1,
   sim_lc2 hi.sim hno (hg X.s_0 X.H_0 0 [] []).sim (ht X.s_0 X.H_0 0 [] []).sim (hi1 X.s_0 X.H_0 0 [] []).sim (hg1 X.s_0 X.H_0 0 [] []).sim (ht1 X.s_0 X.H_0 0 [] []).sim (he X.s_0 X.H_0 0 [] []).sim⟩
end Mir
set_option maxHeartbeats 4000000
namespace HT
open PySem PyProof.Rows
end HT
namespace L2
open PySem PySem.Spec PyProof.Rows
end L2
namespace Mir
open PySem PySem.Spec PyProof.Rows L2
def gIndexT : List PV → List PV → Store → Res PV
  | xs, [y], S => match xs.mapM toV, toV y with
    | some us, some u => match idxOf us u with
      | some j => .ok (.int j) S
      | none => .bad
    | _, _ => .bad
  | _, _, _ => .bad
/-- c.index(x), c a tuple of the module -/
def mIndexT (f : Rho → Store → Res PV) (fa : Rho → Store → Res (List PV)) : Rho → Store → Res PV := fun ρ S => (f ρ S).bind fun x S1 => match x with
  | .tup xs => (fa ρ S1).bind fun ys S2 => gIndexT xs ys S2
  | _ => .bad
section
variable {X : Cx} {G : Wd} {E : EK} (K : PySem.W.Frag)
end
def mCallO (n : Nat) (m : List PV → Store → Res SO) (fa : Rho → Store → Res (List PV)) : Rho → Store → Res SO := fun ρ S => (fa ρ S).bind fun xs S1 => if xs.length = n then m xs S1 else .bad
end Mir
set_option maxHeartbeats 4000000
namespace PySem
open AutoSeq1 (wpAny_loadPart')
open Sem (wp)
abbrev mH1 (h : Heap) (l1 : Addr) : Heap := h.push { cls := .type "tuple_iterator", data := .fields #[.ref l1, .int 0 0] }
abbrev mH2 (h : Heap) (l1 l2 : Addr) : Heap := (mH1 h l1).push { cls := .type "list_iterator", data := .fields #[.ref l2, .int 0 0] }
abbrev mH3 (h : Heap) (l1 l2 : Addr) : Heap := (mH2 h l1 l2).push { cls := .type "tuple", data := .seq #[.ref h.objs.size, .ref (mH1 h l1).objs.size] }
abbrev mH4 (h : Heap) (l1 l2 : Addr) : Heap := (mH3 h l1 l2).push { cls := .type "tuple", data := .seq #[.none, .none] }
abbrev mH5 (h : Heap) (l1 l2 : Addr) : Heap := (mH4 h l1 l2).push { cls := .type "zip", data := .fields #[.none, .bool false, .bool false, .ref (mH2 h l1 l2).objs.size, .ref (mH3 h l1 l2).objs.size] }
theorem meetsZipM (l1 l2 : Addr) (xs ys : Array Value) : Meets (Builtin.«zip.__new__» ⟨[.type "zip", .ref l1, .ref l2], []⟩) (fun _ R s => s.heap.IsTuple l1 xs ∧ s.heap.IsList l2 ys ∧ R (.ok (.ret (.ref (mH4 s.heap l1 l2).objs.size))) { s with heap := mH5 s.heap l1 l2 }) :=
  .of_wp fun prog w A R sh q => by
    obtain ⟨hp, g1, dd1, t1, o1⟩ := sh
    obtain ⟨ht, hl, q⟩ := q
    have sub1 := sub_zip
    have hl2 : Heap.IsList (Shared.heap ⟨mH1 hp l1, g1, dd1, t1, o1⟩) l2 ys := by
      obtain ⟨o, e, r⟩ := hl
      exact ⟨o, Heap.get?_push_of_some _ e, r⟩
    wp_walk using wpAny_pyIter_tuple ht, wpAny_pyIter_list hl2
    exact ⟨_, rfl, q⟩
section
variable {prog : Program} {w : World} {A : Around} {E : Value → Shared → Prop} {s : Shared}
theorem callZipM {l1 l2 : Addr} {xs ys : Array Value} {Q : Value → Shared → Prop} (h1 : s.heap.IsTuple l1 xs) (h2 : s.heap.IsList l2 ys)
    (q : ∀ h', IsZip h' (s.heap.objs.size + 4) (s.heap.objs.size + 2) (s.heap.objs.size + 3) .none → IsPair h' (s.heap.objs.size + 2) (.ref s.heap.objs.size) (.ref (s.heap.objs.size + 1)) → IsPair h' (s.heap.objs.size + 3) .none .none → h'.IsTupleIter s.heap.objs.size l1 0 → h'.IsListIter (s.heap.objs.size + 1) l2 0 →
      (∀ c o, s.heap.get? c = some o → h'.get? c = some o) → Q (.ref (s.heap.objs.size + 4)) { s with heap := h' }) :
    wpAny (model prog w) A (call (.type "zip") [.ref l1, .ref l2]) Q E s := by
  refine callType_new F.called_zip (by decide) (F.typeCall_zip_2 _ _) (F.newCall_zip_2 _ _) (fun ob => F.args_object_init_3 ob _ _) F.entry_zip_new (meetsZipM l1 l2 xs ys) ⟨h1, h2, ?_⟩
  have z1 : (mH1 s.heap l1).objs.size = s.heap.objs.size + 1 := Heap.size_push ..
  have z2 : (mH2 s.heap l1 l2).objs.size = s.heap.objs.size + 2 := (Heap.size_push ..).trans (by rw [z1])
  have z3 : (mH3 s.heap l1 l2).objs.size = s.heap.objs.size + 3 := (Heap.size_push ..).trans (by rw [z2])
  have z4 : (mH4 s.heap l1 l2).objs.size = s.heap.objs.size + 4 := (Heap.size_push ..).trans (by rw [z3])
  have g0 : (mH5 s.heap l1 l2).get? s.heap.objs.size = some { cls := .type "tuple_iterator", data := .fields #[.ref l1, .int 0 0] } := Heap.get?_push_of_some _ (Heap.get?_push_of_some _ (Heap.get?_push_of_some _ (Heap.get?_push_of_some _ (Heap.get?_push_size _ rfl))))
  have g1 : (mH5 s.heap l1 l2).get? (s.heap.objs.size + 1) = some { cls := .type "list_iterator", data := .fields #[.ref l2, .int 0 0] } := by
    have : (mH5 s.heap l1 l2).get? (mH1 s.heap l1).objs.size = _ := Heap.get?_push_of_some _ (Heap.get?_push_of_some _ (Heap.get?_push_of_some _ (Heap.get?_push_size _ rfl)))
    rwa [z1] at this
  have g2 : IsPair (mH5 s.heap l1 l2) (s.heap.objs.size + 2) (.ref s.heap.objs.size) (.ref (s.heap.objs.size + 1)) := by
    have : (mH5 s.heap l1 l2).get? (mH2 s.heap l1 l2).objs.size = _ := Heap.get?_push_of_some _ (Heap.get?_push_of_some _ (Heap.get?_push_size _ rfl))
    rwa [z2, z1] at this
  have g3 : IsPair (mH5 s.heap l1 l2) (s.heap.objs.size + 3) .none .none := by
    have : (mH5 s.heap l1 l2).get? (mH3 s.heap l1 l2).objs.size = _ := Heap.get?_push_of_some _ (Heap.get?_push_size _ rfl)
    rwa [z3] at this
  have g4 : IsZip (mH5 s.heap l1 l2) (s.heap.objs.size + 4) (s.heap.objs.size + 2) (s.heap.objs.size + 3) .none := by
    have : (mH5 s.heap l1 l2).get? (mH4 s.heap l1 l2).objs.size = _ := Heap.get?_push_size _ rfl
    rwa [z4, z3, z2] at this
  show _ ∧ _
  rw [z4]
  exact ⟨⟨_, g4, rfl⟩, q _ g4 g2 g3 ⟨_, g0, rfl, rfl⟩ ⟨_, g1, rfl, rfl⟩ fun c o e => Heap.get?_push_of_some _ (Heap.get?_push_of_some _ (Heap.get?_push_of_some _ (Heap.get?_push_of_some _ (Heap.get?_push_of_some _ e))))⟩
theorem zipM_next_item {z TI TO i1 i2 l1 l2 : Addr} {k1 k2 : Nat} {xs ys : Array Value} {x y a b : Value} {Q : Value → Shared → Prop} (ap : ZipApart z TI TO i1 i2 l1 l2) (hz : IsZip s.heap z TI TO .none) (hI : IsPair s.heap TI (.ref i1) (.ref i2)) (hO : IsPair s.heap TO a b) (h1 : s.heap.IsTupleIter i1 l1 k1) (h2 : s.heap.IsListIter i2 l2 k2) (t1 : s.heap.IsTuple l1 xs) (t2 : s.heap.IsList l2 ys) (e1 : xs[k1]? = some x) (e2 : ys[k2]? = some y)
    (q : ∀ h', IsZip h' z TI TO (rawInt s.heap.objs.size) → IsPair h' TO x y → h'.IsTupleIter i1 l1 (k1 + 1) → h'.IsListIter i2 l2 (k2 + 1) → IsPair h' s.heap.objs.size x y → h'.objs.size = s.heap.objs.size + 1 → (∀ c o, c ≠ z → c ≠ TO → c ≠ i1 → c ≠ i2 → s.heap.get? c = some o → h'.get? c = some o) → Q (.ref s.heap.objs.size) { s with heap := h' }) :
    wpAny (model prog w) A (Builtin.«zip.__next__» { pos := [.ref z] }) (fun fin s' => ∃ v, fin = .done (.ret v) ∧ Q v s') E s := by
  unfold Builtin.«zip.__next__»
  refine wpAny_bind ?_
  show wpAny _ _ (pure (Value.ref z, [])) _ _ s
  refine wpAny_pure ?_
  refine wpAny_bind (wpAny_field hz rfl (x := .bool false) rfl ?_)
  refine wpAny_bind (wpAny_field hz rfl (x := .ref TI) rfl ?_)
  refine wpAny_bind (wpAny_seqItems hI rfl ?_)
  refine wpAny_bind ?_
  unfold Builtin.SmallTypes.ownedTupleIsFree
  refine wpAny_bind (wpAny_field hz rfl (x := .none) rfl (wpAny_pure ?_))
  refine wpAny_bind (wpAny_rule ?_)
  refine wpAny_bind (wpAny_field hz rfl (x := .ref TO) rfl ?_)
  refine wpAny_bind (wpAny_setField hz rfl (by show 0 < 5; decide) ?_)
  -- heap A: z marked
  generalize eA : s.heap.update z (Obj.mapFields fun x_1 => x_1.setIfInBounds 0 Value.ellipsis) = hA
  have zA : hA.get? z = some { cls := .type "zip", data := .fields #[.ellipsis, .bool false, .bool false, .ref TI, .ref TO] } := by rw [← eA]; exact Heap.get?_update_self _ hz rfl
  have kA : ∀ c, c ≠ z → hA.get? c = s.heap.get? c := fun c hc => by rw [← eA]; exact Heap.get?_update_ne _ _ _ _ hc
  have nA : hA.objs.size = s.heap.objs.size := by rw [← eA]; exact Heap.size_update ..
  have h1A : hA.IsTupleIter i1 l1 k1 := h1.at fun o e => (kA i1 ap.i1z).trans e
  have t1A : hA.IsTuple l1 xs := by obtain ⟨o, e, r⟩ := t1; exact ⟨o, (kA l1 ap.l1z).trans e, r⟩
  refine wpAny_bind ?_
  rw [show (#[Value.ref i1, Value.ref i2].toList.zipIdx : List (Value × Nat)) = [(Value.ref i1, 0), (Value.ref i2, 1)] from rfl, List.forIn_cons]
  refine wpAny_bind ?_
  refine wpAny_bind (wpAny_onRaise ?_)
  show wpAny _ _ (Builtin.SmallTypes.nextOf (Value.ref i1) >>= fun v => pure (some v)) _ _ _
  refine wpAny_bind (RZ.nextOf_tuple_item (s := { s with heap := hA }) h1A t1A e1 fun hB h1B sB => wpAny_pure ?_)
  have kB : ∀ c, c ≠ i1 → hB.get? c = hA.get? c := sB.2
  have nB : hB.objs.size = s.heap.objs.size := sB.1.trans nA
  have zB := (kB z (Ne.symm ap.i1z)).trans zA
  have oB : IsPair hB TO a b := ((kB TO ap.TOi1).trans (kA TO ap.TOz)).trans hO
  refine wpAny_bind (wpAny_seqItems (s := { s with heap := hB }) oB rfl ?_)
  refine wpAny_bind (wpAny_updateSeq (s := { s with heap := hB }) oB rfl ?_ (by show 2 ≤ sizeLine; decide) (by show 2 ≤ sizeLine + 1; decide))
  generalize eC : hB.update TO (Obj.mapSeq fun x_1 => x_1.setIfInBounds 0 x) = hC
  have oC : IsPair hC TO x b := by rw [← eC]; exact Heap.get?_update_self _ oB rfl
  have kC : ∀ c, c ≠ TO → hC.get? c = hB.get? c := fun c hc => by rw [← eC]; exact Heap.get?_update_ne _ _ _ _ hc
  have nC : hC.objs.size = s.heap.objs.size := by rw [← eC]; exact (Heap.size_update ..).trans nB
  refine wpAny_bind (wpAny_letGo (wpAny_pure ?_))
  -- the second
  have zC := (kC z (Ne.symm ap.TOz)).trans zB
  have h1C : hC.IsTupleIter i1 l1 (k1 + 1) := h1B.at fun o e => (kC i1 (Ne.symm ap.TOi1)).trans e
  have h2C : hC.IsListIter i2 l2 k2 := h2.at fun o e => ((kC i2 (Ne.symm ap.TOi2)).trans ((kB i2 (Ne.symm ap.i12)).trans (kA i2 ap.i2z))).trans e
  have t2C : hC.IsList l2 ys := by obtain ⟨o, e, r⟩ := t2; exact ⟨o, ((kC l2 ap.l2TO).trans ((kB l2 ap.l2i1).trans (kA l2 ap.l2z))).trans e, r⟩
  show wpAny _ _ (forIn [(Value.ref i2, 1)] _ _) _ _ _
  rw [List.forIn_cons]
  refine wpAny_bind ?_
  refine wpAny_bind (wpAny_onRaise ?_)
  show wpAny _ _ (Builtin.SmallTypes.nextOf (Value.ref i2) >>= fun v => pure (some v)) _ _ _
  refine wpAny_bind (wpAny_nextOf_list_item (s := { s with heap := hC }) h2C t2C e2 fun hD h2D sD => wpAny_pure ?_)
  have kD : ∀ c, c ≠ i2 → hD.get? c = hC.get? c := sD.2
  have nD : hD.objs.size = s.heap.objs.size := sD.1.trans nC
  have oD : IsPair hD TO x b := (kD TO ap.TOi2).trans oC
  refine wpAny_bind (wpAny_seqItems (s := { s with heap := hD }) oD rfl ?_)
  refine wpAny_bind (wpAny_updateSeq (s := { s with heap := hD }) oD rfl ?_ (by show 2 ≤ sizeLine; decide) (by show 2 ≤ sizeLine + 1; decide))
  generalize eF : hD.update TO (Obj.mapSeq fun x_1 => x_1.setIfInBounds 1 y) = hF
  have oF : IsPair hF TO x y := by rw [← eF]; exact Heap.get?_update_self _ oD rfl
  have kF : ∀ c, c ≠ TO → hF.get? c = hD.get? c := fun c hc => by rw [← eF]; exact Heap.get?_update_ne _ _ _ _ hc
  have nF : hF.objs.size = s.heap.objs.size := by rw [← eF]; exact (Heap.size_update ..).trans nD
  refine wpAny_bind (wpAny_letGo (wpAny_pure ?_))
  show wpAny _ _ (forIn ([] : List (Value × Nat)) _ _) _ _ _
  rw [List.forIn_nil]
  refine wpAny_pure ?_
  refine wpAny_bind (wpAny_seqItems (s := { s with heap := hF }) oF rfl ?_)
  have zF : hF.get? z = some { cls := .type "zip", data := .fields #[.ellipsis, .bool false, .bool false, .ref TI, .ref TO] } := (kF z (Ne.symm ap.TOz)).trans ((kD z (Ne.symm ap.i2z)).trans zC)
  show wpAny _ _ (newTuple [x, y] >>= _) _ _ _
  refine wpAny_bind (wpAny_newTuple (s := { s with heap := hF }) ?_ (by show 2 ≤ sizeLine; decide))
  show wpAny _ _ _ _ _ { s with heap := hF.push { cls := .type "tuple", data := .seq #[x, y] } }
  generalize eG : hF.push { cls := .type "tuple", data := .seq #[x, y] } = hG
  have gG : ∀ c o, hF.get? c = some o → hG.get? c = some o := fun c o e => by rw [← eG]; exact Heap.get?_push_of_some _ e
  have pG : IsPair hG s.heap.objs.size x y := by
    rw [← eG, ← nF]
    exact Heap.get?_push_size _ rfl
  have nG : hG.objs.size = s.heap.objs.size + 1 := by rw [← eG]; exact (Heap.size_push ..).trans (by rw [nF])
  show wpAny _ _ (Builtin.SmallTypes.ownedTupleHandOut (Value.ref z) (Value.ref hF.objs.size) >>= fun _ => ret (Value.ref hF.objs.size)) _ _ _
  rw [nF]
  refine wpAny_bind ?_
  show wpAny _ _ (setField (Value.ref z) 0 (rawInt s.heap.objs.size) >>= fun _ => setField (Value.ref z) 1 (.bool false)) _ _ _
  refine wpAny_bind (wpAny_setField (s := { s with heap := hG }) (gG z _ zF) rfl (by show 0 < 5; decide) ?_)
  generalize eI : hG.update z (Obj.mapFields fun x_1 => x_1.setIfInBounds 0 (rawInt s.heap.objs.size)) = hI2
  have zI : hI2.get? z = some { cls := .type "zip", data := .fields #[rawInt s.heap.objs.size, .bool false, .bool false, .ref TI, .ref TO] } := by rw [← eI]; exact Heap.get?_update_self _ (gG z _ zF) rfl
  have kI : ∀ c, c ≠ z → hI2.get? c = hG.get? c := fun c hc => by rw [← eI]; exact Heap.get?_update_ne _ _ _ _ hc
  have nI : hI2.objs.size = s.heap.objs.size + 1 := by rw [← eI]; exact (Heap.size_update ..).trans nG
  refine wpAny_setField (s := { s with heap := hI2 }) zI rfl (by show 1 < 5; decide) ?_
  generalize eJ : hI2.update z (Obj.mapFields fun x_1 => x_1.setIfInBounds 1 (.bool false)) = hJ
  have zJ : IsZip hJ z TI TO (rawInt s.heap.objs.size) := by rw [← eJ]; exact Heap.get?_update_self _ zI rfl
  have kJ : ∀ c, c ≠ z → hJ.get? c = hI2.get? c := fun c hc => by rw [← eJ]; exact Heap.get?_update_ne _ _ _ _ hc
  have nJ : hJ.objs.size = s.heap.objs.size + 1 := by rw [← eJ]; exact (Heap.size_update ..).trans nI
  have hlt : z < s.heap.objs.size := Heap.lt_size hz
  have up : ∀ c o, c ≠ z → hF.get? c = some o → hJ.get? c = some o := fun c o hc e => (kJ c hc).trans ((kI c hc).trans (gG c o e))
  refine wpAny_pure ⟨_, rfl, q hJ zJ (up TO _ ap.TOz oF) ?_ ?_ ?_ nJ ?_⟩
  · exact (h1C.at fun o e => (kF i1 (Ne.symm ap.TOi1)).trans ((kD i1 ap.i12).trans e)).at fun o e => up i1 o ap.i1z e
  · exact (h2D.at fun o e => (kF i2 (Ne.symm ap.TOi2)).trans e).at fun o e => up i2 o ap.i2z e
  · exact (kJ _ (Nat.ne_of_gt hlt)).trans ((kI _ (Nat.ne_of_gt hlt)).trans pG)
  · intro c o c1 c2 c3 c4 e
    refine up c o c1 ?_
    rw [kF c c2, kD c c4, kC c c2, kB c c3, kA c c1]
    exact e
theorem zipM_next_end {z TI TO i1 i2 l1 l2 : Addr} {k1 k2 : Nat} {xs ys : Array Value} {a b : Value} {Q : Fin → Shared → Prop} (hh : A.handled = none) (ap : ZipApart z TI TO i1 i2 l1 l2) (hz : IsZip s.heap z TI TO .none) (hI : IsPair s.heap TI (.ref i1) (.ref i2)) (hO : IsPair s.heap TO a b) (h1 : s.heap.IsTupleIter i1 l1 k1) (h2 : s.heap.IsListIter i2 l2 k2) (t1 : s.heap.IsTuple l1 xs) (t2 : s.heap.IsList l2 ys) (e : xs[k1]? = none ∨ ys[k2]? = none)
    (q : ∀ (h' : Heap) (ex : Addr), (∀ c o, c ≠ z → c ≠ TO → c ≠ i1 → c ≠ i2 → s.heap.get? c = some o → h'.get? c = some o) → (∃ o, h'.get? ex = some o ∧ o.cls = Value.type "StopIteration") → E (.ref ex) { s with heap := h' }) :
    wpAny (model prog w) A (Builtin.«zip.__next__» { pos := [.ref z] }) Q E s := by
  unfold Builtin.«zip.__next__»
  refine wpAny_bind ?_
  show wpAny _ _ (pure (Value.ref z, [])) _ _ s
  refine wpAny_pure ?_
  refine wpAny_bind (wpAny_field hz rfl (x := .bool false) rfl ?_)
  refine wpAny_bind (wpAny_field hz rfl (x := .ref TI) rfl ?_)
  refine wpAny_bind (wpAny_seqItems hI rfl ?_)
  refine wpAny_bind ?_
  unfold Builtin.SmallTypes.ownedTupleIsFree
  refine wpAny_bind (wpAny_field hz rfl (x := .none) rfl (wpAny_pure ?_))
  refine wpAny_bind (wpAny_rule ?_)
  refine wpAny_bind (wpAny_field hz rfl (x := .ref TO) rfl ?_)
  refine wpAny_bind (wpAny_setField hz rfl (by show 0 < 5; decide) ?_)
  generalize eA : s.heap.update z (Obj.mapFields fun x_1 => x_1.setIfInBounds 0 Value.ellipsis) = hA
  have zA : hA.get? z = some { cls := .type "zip", data := .fields #[.ellipsis, .bool false, .bool false, .ref TI, .ref TO] } := by rw [← eA]; exact Heap.get?_update_self _ hz rfl
  have kA : ∀ c, c ≠ z → hA.get? c = s.heap.get? c := fun c hc => by rw [← eA]; exact Heap.get?_update_ne _ _ _ _ hc
  have h1A : hA.IsTupleIter i1 l1 k1 := h1.at fun o e => (kA i1 ap.i1z).trans e
  have t1A : hA.IsTuple l1 xs := by obtain ⟨o, e, r⟩ := t1; exact ⟨o, (kA l1 ap.l1z).trans e, r⟩
  refine wpAny_bind ?_
  rw [show (#[Value.ref i1, Value.ref i2].toList.zipIdx : List (Value × Nat)) = [(Value.ref i1, 0), (Value.ref i2, 1)] from rfl, List.forIn_cons]
  refine wpAny_bind ?_
  refine wpAny_bind (wpAny_onRaise ?_)
  show wpAny _ _ (Builtin.SmallTypes.nextOf (Value.ref i1) >>= fun v => pure (some v)) _ _ _
  cases e1 : xs[k1]? with
  | none =>
    refine wpAny_bind (RZ.nextOf_tuple_end (s := { s with heap := hA }) hh h1A t1A e1 fun hB ex kB hx => ?_)
    have zB := kB z _ (Ne.symm ap.i1z) zA
    refine wpAny_setField (s := { s with heap := hB }) zB rfl (by show 0 < 5; decide) ?_
    generalize eC : hB.update z (Obj.mapFields fun x_1 => x_1.setIfInBounds 0 Value.none) = hC
    have kC : ∀ c, c ≠ z → hC.get? c = hB.get? c := fun c hc => by rw [← eC]; exact Heap.get?_update_ne _ _ _ _ hc
    refine q hC ex (fun c o c1 c2 c3 c4 e => ?_) ?_
    · rw [kC c c1]
      exact kB c o c3 ((kA c c1).trans e)
    · obtain ⟨o, ho, ec⟩ := hx
      by_cases hez : ex = z
      · subst hez
        rw [zB] at ho
        cases ho
        injection ec with h
        exact absurd h (by decide)
      · exact ⟨o, (kC ex hez).trans ho, ec⟩
  | some x =>
    have e2 : ys[k2]? = none := e.resolve_left (by rw [e1]; exact fun h => nomatch h)
    refine wpAny_bind (RZ.nextOf_tuple_item (s := { s with heap := hA }) h1A t1A e1 fun hB h1B sB => wpAny_pure ?_)
    have kB : ∀ c, c ≠ i1 → hB.get? c = hA.get? c := sB.2
    have zB := (kB z (Ne.symm ap.i1z)).trans zA
    have oB : IsPair hB TO a b := ((kB TO ap.TOi1).trans (kA TO ap.TOz)).trans hO
    refine wpAny_bind (wpAny_seqItems (s := { s with heap := hB }) oB rfl ?_)
    refine wpAny_bind (wpAny_updateSeq (s := { s with heap := hB }) oB rfl ?_ (by show 2 ≤ sizeLine; decide) (by show 2 ≤ sizeLine + 1; decide))
    generalize eC : hB.update TO (Obj.mapSeq fun x_1 => x_1.setIfInBounds 0 x) = hC
    have kC : ∀ c, c ≠ TO → hC.get? c = hB.get? c := fun c hc => by rw [← eC]; exact Heap.get?_update_ne _ _ _ _ hc
    refine wpAny_bind (wpAny_letGo (wpAny_pure ?_))
    have zC := (kC z (Ne.symm ap.TOz)).trans zB
    have h2C : hC.IsListIter i2 l2 k2 := h2.at fun o e => ((kC i2 (Ne.symm ap.TOi2)).trans ((kB i2 (Ne.symm ap.i12)).trans (kA i2 ap.i2z))).trans e
    have t2C : hC.IsList l2 ys := by obtain ⟨o, e, r⟩ := t2; exact ⟨o, ((kC l2 ap.l2TO).trans ((kB l2 ap.l2i1).trans (kA l2 ap.l2z))).trans e, r⟩
    show wpAny _ _ (forIn [(Value.ref i2, 1)] _ _) _ _ _
    rw [List.forIn_cons]
    refine wpAny_bind ?_
    refine wpAny_bind (wpAny_onRaise ?_)
    show wpAny _ _ (Builtin.SmallTypes.nextOf (Value.ref i2) >>= fun v => pure (some v)) _ _ _
    refine wpAny_bind (wpAny_nextOf_list_end (s := { s with heap := hC }) hh h2C t2C e2 fun hD ex kD hx => ?_)
    have zD := kD z _ (Ne.symm ap.i2z) zC
    refine wpAny_setField (s := { s with heap := hD }) zD rfl (by show 0 < 5; decide) ?_
    generalize eF : hD.update z (Obj.mapFields fun x_1 => x_1.setIfInBounds 0 Value.none) = hF
    have kF : ∀ c, c ≠ z → hF.get? c = hD.get? c := fun c hc => by rw [← eF]; exact Heap.get?_update_ne _ _ _ _ hc
    refine q hF ex (fun c o c1 c2 c3 c4 e => ?_) ?_
    · rw [kF c c1]
      refine kD c o c4 ?_
      rw [kC c c2, kB c c3, kA c c1]
      exact e
    · obtain ⟨o, ho, ec⟩ := hx
      by_cases hez : ex = z
      · subst hez
        rw [zD] at ho
        cases ho
        injection ec with h
        exact absurd h (by decide)
      · exact ⟨o, (kF ex hez).trans ho, ec⟩
theorem pyNext_zipM_item {z TI TO i1 i2 l1 l2 : Addr} {k1 k2 : Nat} {xs ys : Array Value} {x y a b : Value} {Q : Option Value → Shared → Prop} (ap : ZipApart z TI TO i1 i2 l1 l2) (hz : IsZip s.heap z TI TO .none) (hI : IsPair s.heap TI (.ref i1) (.ref i2)) (hO : IsPair s.heap TO a b) (h1 : s.heap.IsTupleIter i1 l1 k1) (h2 : s.heap.IsListIter i2 l2 k2) (t1 : s.heap.IsTuple l1 xs) (t2 : s.heap.IsList l2 ys) (e1 : xs[k1]? = some x) (e2 : ys[k2]? = some y)
    (q : ∀ h', IsZip h' z TI TO (rawInt s.heap.objs.size) → IsPair h' TO x y → h'.IsTupleIter i1 l1 (k1 + 1) → h'.IsListIter i2 l2 (k2 + 1) → IsPair h' s.heap.objs.size x y → h'.objs.size = s.heap.objs.size + 1 → (∀ c o, c ≠ z → c ≠ TO → c ≠ i1 → c ≠ i2 → s.heap.get? c = some o → h'.get? c = some o) → Q (some (.ref s.heap.objs.size)) { s with heap := h' }) :
    wpAny (model prog w) A (pyNext (.ref z)) Q E s := by
  have tZ : s.TypeIs (.ref z) "zip" := ⟨_, hz, rfl⟩
  unfold pyNext
  refine wpAny_bind (wpAny_attempt (wpAny_callSpecial?_slot (name := Str.ofString "__next__") tZ F.slot_zip_next (wpAny_call_entry F.slot_zip_next tZ F.entry_zip_next ?_ (F.args_zip_next_1 _))))
  exact zipM_next_item ap hz hI hO h1 h2 t1 t2 e1 e2 fun h' p1 p2 p3 p4 p5 p6 p7 => wpAny_pure (q h' p1 p2 p3 p4 p5 p6 p7)
theorem pyNext_zipM_end {z TI TO i1 i2 l1 l2 : Addr} {k1 k2 : Nat} {xs ys : Array Value} {a b : Value} {Q : Option Value → Shared → Prop} (hh : A.handled = none) (ap : ZipApart z TI TO i1 i2 l1 l2) (hz : IsZip s.heap z TI TO .none) (hI : IsPair s.heap TI (.ref i1) (.ref i2)) (hO : IsPair s.heap TO a b) (h1 : s.heap.IsTupleIter i1 l1 k1) (h2 : s.heap.IsListIter i2 l2 k2) (t1 : s.heap.IsTuple l1 xs) (t2 : s.heap.IsList l2 ys) (e : xs[k1]? = none ∨ ys[k2]? = none)
    (q : ∀ (h' : Heap), (∀ c o, c ≠ z → c ≠ TO → c ≠ i1 → c ≠ i2 → s.heap.get? c = some o → h'.get? c = some o) → Q none { s with heap := h' }) :
    wpAny (model prog w) A (pyNext (.ref z)) Q E s := by
  have tZ : s.TypeIs (.ref z) "zip" := ⟨_, hz, rfl⟩
  unfold pyNext
  refine wpAny_bind (wpAny_attempt (wpAny_callSpecial?_slot (name := Str.ofString "__next__") tZ F.slot_zip_next (wpAny_call_entry F.slot_zip_next tZ F.entry_zip_next ?_ (F.args_zip_next_1 _))))
  refine zipM_next_end hh ap hz hI hO h1 h2 t1 t2 e fun h' ex kb hx => ?_
  obtain ⟨o, ho, ec⟩ := hx
  exact wpAny_bind (wpAny_isInstance (T := "StopIteration") (b := true) ⟨o, ho, ec⟩ isSubtype_stop (wpAny_pure (q _ kb)))
end
end PySem
namespace L2
open PySem PySem.Spec PyProof.Rows
/-- the tuple at a and the list at b, in new pairs -/
def ItzM (K : PySem.W.Frag) (a b : Addr) : It :=
  ⟨fun i H => ∃ (xs ys : List V) (x y : V), SqT K H a xs ∧ SqL K H b ys ∧ xs[i]? = some x ∧ ys[i]? = some y,
   fun i H v H' => ∃ T x y, v = .ref T ∧ H T = none ∧ H' = upd H T (.tup [x, y]) ∧ (∀ xs, SqT K H a xs → xs[i]? = some x) ∧ ∀ ys, SqL K H b ys → ys[i]? = some y,
   fun i H => ∃ xs ys : List V, SqT K H a xs ∧ SqL K H b ys ∧ (xs.length ≤ i ∨ ys.length ≤ i)⟩
theorem turn_zipM {P : Program} {w : World} {K : PySem.W.Frag} {elts : List Expr} {kk : Nat} {tpos : Pos} {a b z TI TO i1 i2 : Addr} (ap : ZipApart z TI TO i1 i2 a b) :
    Turn P w K (.Tuple elts kk tpos) (ItzM K a b) [z, TI, TO, i1, i2] z (fun i h => IsZip h z TI TO .none ∧ IsPair h TI (.ref i1) (.ref i2) ∧ (∃ x y, IsPair h TO x y) ∧ h.IsTupleIter i1 a i ∧ h.IsListIter i2 b i) where
  mem := by simp
  obj := fun i h st c hc => by
    obtain ⟨hz, hI, ⟨x, y, hO⟩, ⟨o1, e1, _, d1⟩, ⟨o2, e2, _, d2⟩⟩ := st
    rcases (show c = z ∨ c = TI ∨ c = TO ∨ c = i1 ∨ c = i2 by simpa using hc) with rfl | rfl | rfl | rfl | rfl
    · exact ⟨_, hz, fun v q => nomatch q⟩
    · exact ⟨_, hI, fun v q => nomatch q⟩
    · exact ⟨_, hO, fun v q => nomatch q⟩
    · exact ⟨o1, e1, fun v q => by rw [d1] at q; cases q⟩
    · exact ⟨o2, e2, fun v q => by rw [d2] at q; cases q⟩
  keep := fun i h h' st k => by
    obtain ⟨hz, hI, ⟨x, y, hO⟩, h1, h2⟩ := st
    exact ⟨k z (by simp) _ hz, k TI (by simp) _ hI, ⟨x, y, k TO (by simp) _ hO⟩, h1.at fun o e => k i1 (by simp) o e, h2.at fun o e => k i2 (by simp) o e⟩
  item := by
    intro X hP hw hK hc i pins s σ H E I hf st hg
    subst hP hw hK
    obtain ⟨hz, hI, ⟨x0, y0, hO⟩, h1, h2⟩ := st
    obtain ⟨xs, ys, x, y, hq, hr, hx, hy⟩ := hg
    obtain ⟨its, rv, p, _⟩ := I.tuple hq
    obtain ⟨jts, rw2, p2, _⟩ := I.list hr
    obtain ⟨u, hu, ru⟩ := rv.get hx
    obtain ⟨v, hv, rv2⟩ := rw2.get hy
    have pT : s.heap.IsTuple a its.toArray := p
    have pL : s.heap.IsList b jts.toArray := p2.isList
    have hl : ∀ c ∈ [z, TI, TO, i1, i2], c < s.heap.objs.size := fun c hc => by
      rcases (show c = z ∨ c = TI ∨ c = TO ∨ c = i1 ∨ c = i2 by simpa using hc) with rfl | rfl | rfl | rfl | rfl
      · exact Heap.lt_size hz
      · exact Heap.lt_size hI
      · exact Heap.lt_size hO
      · obtain ⟨_, q, _⟩ := h1; exact Heap.lt_size q
      · obtain ⟨_, q, _⟩ := h2; exact Heap.lt_size q
    have hzl := hl z (by simp)
    refine PySem.pyNext_zipM_item ap hz hI hO h1 h2 pT pL (x := u) (y := v) (by simpa using hu) (by simpa using hv) fun h' z' o' q1 q2 hT hsz hk => ?_
    refine ⟨_, rfl, wpAny_letOwnedTupleGo_zip (s := { s with heap := h' }) z' fun h'' he' sb => ?_⟩
    have hT2 : h''.get? s.heap.objs.size = some { cls := .type "tuple", data := .seq #[u, v] } := (sb.2 _ (Nat.ne_of_gt hzl)).trans hT
    have new : ObjOk X.prog X.w (upd H s.heap.objs.size (.tup [x, y])) h'' s.heap.objs.size (.tup [x, y]) :=
      ⟨by show 2 ≤ sizeLine; decide, [u, v], .cons ru (.cons rv2 .nil), ⟨_, hT2, rfl, _, rfl⟩⟩
    have I1 : Inv X pins σ (upd H s.heap.objs.size (.tup [x, y])) { s with heap := h'' } :=
      I.turnedNew (t' := s.toks) (ch := [z, TI, TO, i1, i2]) (fun c ob hb q => (sb.2 c (fun e => hb (by simp [e]))).trans (hk c ob (fun e => hb (by simp [e])) (fun e => hb (by simp [e])) (fun e => hb (by simp [e])) (fun e => hb (by simp [e])) q)) hf (Nat.le_refl _) new
    refine ⟨.ref s.heap.objs.size, _, I1, rfl, ⟨_, x, y, rfl, I.hok.fresh (Nat.le_refl _), rfl, fun zs hz => ?_, fun zs hz => ?_⟩, ⟨he', ?_, ⟨u, v, (sb.2 TO ap.TOz).trans o'⟩, q1.at fun o q => (sb.2 i1 ap.i1z).trans q, q2.at fun o q => (sb.2 i2 ap.i2z).trans q⟩, fun c hc => ?_⟩
    · rw [I.tuple_inj hz hq]; exact hx
    · rw [I.list_inj hz hr]; exact hy
    · exact (sb.2 TI ap.TIz).trans (hk TI _ ap.TIz ap.TITO ap.TIi1 ap.TIi2 hI)
    · rw [upd_ne (Nat.ne_of_lt (hl c hc))]
      exact (hf c hc).1
  done := by
    intro X hP hw hK hc i pins s σ H E I hf st hg
    subst hP hw hK
    obtain ⟨hz, hI, ⟨x0, y0, hO⟩, h1, h2⟩ := st
    obtain ⟨xs, ys, hq, hr, hx⟩ := hg
    obtain ⟨its, rv, p, _⟩ := I.tuple hq
    obtain ⟨jts, rw2, p2, _⟩ := I.list hr
    have pT : s.heap.IsTuple a its.toArray := p
    have pL : s.heap.IsList b jts.toArray := p2.isList
    have l1 := rv.length
    have l2 := rw2.length
    refine PySem.pyNext_zipM_end (I.ok.hd hc) ap hz hI hO h1 h2 pT pL ?_ fun h' eb => ⟨rfl, ?_⟩
    · rcases hx with hx | hx
      · left; simp; omega
      · right; simp; omega
    · exact I.turnedL (t' := s.toks) (ch := [z, TI, TO, i1, i2]) (fun c ob hb q => eb c ob (fun e => hb (by simp [e])) (fun e => hb (by simp [e])) (fun e => hb (by simp [e])) (fun e => hb (by simp [e])) q) hf
  self := fun A i s Q E st h => wpAny_pyIter_zip st.1 h
theorem apart_of {n a b : Nat} (ha : a < n) (hb : b < n) : ZipApart (n + 4) (n + 2) (n + 3) n (n + 1) a b := by
  constructor <;> (intro e; have e : (_ : Nat) = (_ : Nat) := e; omega)
def iZipM (K : PySem.W.Frag) (ta : TA) : TI := fun σ H R => ta σ H fun vs H1 => ∃ a b xs ys, vs = [.ref a, .ref b] ∧ SqT K H1 a xs ∧ SqL K H1 b ys ∧ R (ItzM K a b) H1
theorem pi_zipM {X : Cx} {e e2 : Expr} {ta : TA} {p pos tpos : Pos} {elts : List Expr} {kk : Nat} (hg : Gl X "zip") (hm : X.mg "zip" = none) (ha : PA X [e, e2] ta) (hs : starEach [e, e2] X.env = (false, eval e X.env) :: starEach [e2] X.env := by rfl) (hpl : (backTo pos (starEach [e2] X.env)).any (·.1) = false := by rfl) :
    PI X (.Tuple elts kk tpos) (.Call (.Name "zip" p) [e, e2] [] pos) (iZipM X.K ta) := by
  refine ⟨fun pins s σ H R I h => ?_⟩
  refine Call_ (ld_blt I hg hm PyProof.Rows.boot_zip (PyProof.Rows.callWith_type1 (thn (ha.run pos pins s σ H _ I h) fun us s1 ⟨vs, H1, I1, r1, q1⟩ => ?_) hs hpl))
  obtain ⟨a, b, xs, ys, ex, hq, hr, q⟩ := q1
  subst ex
  cases r1 with
  | cons r rr =>
    cases rr with
    | cons r2 rr2 =>
      cases rr2
      cases r
      cases r2
      obtain ⟨its, rv, pT, _⟩ := I1.tuple hq
      obtain ⟨jts, rw2, pL, _⟩ := I1.list hr
      refine PySem.callZipM pT pL.isList fun h' hz hI hO h1 h2 hk => wpAny_pyIter_zip hz ?_
      have I2 : Inv X pins σ H1 { s1 with heap := h' } := I1.kept (t' := s1.toks) hk
      have la : a < s1.heap.objs.size := pT.lt
      have lb : b < s1.heap.objs.size := by obtain ⟨o, n, e, _⟩ := pL; exact Heap.lt_size e
      have ap : ZipApart (s1.heap.objs.size + 4) (s1.heap.objs.size + 2) (s1.heap.objs.size + 3) s1.heap.objs.size (s1.heap.objs.size + 1) a b := by
        exact apart_of la lb
      refine ⟨s1.heap.objs.size + 4, [s1.heap.objs.size + 4, s1.heap.objs.size + 2, s1.heap.objs.size + 3, s1.heap.objs.size, s1.heap.objs.size + 1], _, _, H1, rfl, I2, turn_zipM ap, ⟨hz, hI, ⟨_, _, hO⟩, h1, h2⟩, fun c hc => ?_, q⟩
      have hle : s1.heap.objs.size ≤ c := by
        rcases (show c = s1.heap.objs.size + 4 ∨ c = s1.heap.objs.size + 2 ∨ c = s1.heap.objs.size + 3 ∨ c = s1.heap.objs.size ∨ c = s1.heap.objs.size + 1 by simpa using hc) with rfl | rfl | rfl | rfl | rfl <;> omega
      exact I1.fpOk hle (I1.hok.fresh hle)
end L2
namespace Mir
open PySem PySem.Spec PyProof.Rows L2
section
variable {X : Cx} {G : Wd} {E : EK} (K : PySem.W.Frag)
def gZipA : List PV → Store → Res (List PV)
  | [.tup xs, .lst ys], S => .ok (zipP xs ys) S
  | [.tup xs, .cl ys], S => .ok (zipP xs ys) S
  | xs, S => gZip xs S
theorem itok_zipM {w1 : Wd} {a b : Addr} {xs ys : List PV} {vs us : List V} (ha : SqT K w1.hc a vs) (r : RVs K w1.L w1.hc xs vs) (hb : SqL K w1.hc b us) (r2 : RVs K w1.L w1.hc ys us) : ItOk K w1 (ItzM K a b) (zipP xs ys) := fun i w' s k => by
  have h1 : SqT K w'.H a vs := hc_sqT (sqT_mono s.ext ha)
  have h2 : SqL K w'.H b us := hc_sqL (sqL_mono s.ext hb)
  refine ⟨fun x e => ?_, fun e => ⟨vs, us, h1, h2, by rw [r.len, r2.len]; rw [zipP_len] at e; omega⟩⟩
  obtain ⟨y, z, e1, e2, rfl⟩ := zipP_get e
  obtain ⟨v, g1, g2⟩ := (r.mono s.pre s.ext).get e1
  obtain ⟨u, g3, g4⟩ := (r2.mono s.pre s.ext).get e2
  refine ⟨⟨vs, us, v, u, h1, h2, g1, g3⟩, fun q H' hy => ?_⟩
  obtain ⟨T, p1, p2, rfl, hT, rfl, q1, q2⟩ := hy
  have e3 := q1 vs h1
  have e4 := q2 us h2
  rw [g1] at e3
  rw [g3] at e4
  cases e3
  cases e4
  exact ⟨w'.put T (.tup [v, u]), rfl, rfl, put_step k hT, put_ok k hT, pair_put k hT g2 g4⟩
abbrev iZipB (K : PySem.W.Frag) (ta : TA) : TI := fun σ H R => iZipM K ta σ H R ∨ RZ.iZipA K ta σ H R
theorem sim_zipA {K : PySem.W.Frag} {mg ta fa} (h : ASim K mg G E ta fa) : ISim K mg G E (iZipB K ta) (mRange gZipA fa) := fun w ρ σ R I q => by
  have q' := Good.bind1 q
  by_cases hm : ∃ xs ys S, fa ρ w.S = .ok [.tup xs, .lst ys] S ∨ fa ρ w.S = .ok [.tup xs, .cl ys] S
  · obtain ⟨xs, ys, S, e | e⟩ := hm
    · refine .inl (h w ρ σ _ I ?_)
      rw [e] at q' ⊢
      intro w1 vs e2 s1 k1 r1
      obtain ⟨v, u, rfl, ⟨a, us, rfl, r2, r3⟩, b, zs, rfl, r4, r5⟩ := vs2 K r1
      have r4 : SqL K w1.hc b zs := .inl (.inl r4)
      exact ⟨a, b, us, zs, rfl, hc_sqT r2, hc_sqL r4, q' w1 _ e2 s1 k1 (itok_zipM K r2 r3 r4 r5)⟩
    · refine .inl (h w ρ σ _ I ?_)
      rw [e] at q' ⊢
      intro w1 vs e2 s1 k1 r1
      obtain ⟨v, u, rfl, ⟨a, us, rfl, r2, r3⟩, b, zs, rfl, r4, r5⟩ := vs2 K r1
      exact ⟨a, b, us, zs, rfl, hc_sqT r2, hc_sqL r4, q' w1 _ e2 s1 k1 (itok_zipM K r2 r3 r4 r5)⟩
  · refine .inr (sim_zip (K := K) (mg := mg) h w ρ σ R I ?_)
    have e : mRange gZipA fa ρ w.S = mRange gZip fa ρ w.S := by
      unfold mRange
      cases e1 : fa ρ w.S with
      | bad => rfl
      | exc c fs S => rfl
      | ok xs S =>
        show gZipA xs S = gZip xs S
        unfold gZipA
        split
        · exact absurd ⟨_, _, _, .inl e1⟩ hm
        · exact absurd ⟨_, _, _, .inr e1⟩ hm
        · rfl
    rw [← e]
    exact q
theorem fit_zipA {e e2 : Expr} {p pos tpos : Pos} {elts : List Expr} {kk : Nat} {ta fa} (hm : X.mg "zip" = none) (ha : FA X G E [e, e2] ta fa) (hK : X.K = K := by rfl) (hg : Gl X "zip" := by rfl) (hs : starEach [e, e2] X.env = (false, eval e X.env) :: starEach [e2] X.env := by rfl) (hpl : (backTo pos (starEach [e2] X.env)).any (·.1) = false := by rfl) :
    FIt X G E (.Tuple elts kk tpos) (.Call (.Name "zip" p) [e, e2] [] pos) (iZipB K ta) (mRange gZipA fa) := by
  subst hK
  exact ⟨pi_or (pi_zipM hg hm ha.pe hs hpl) (RZ.pi_zipA hg hm ha.pe hs hpl), sim_zipA ha.sim⟩
end
end Mir
set_option maxHeartbeats 4000000
namespace Mir
open PySem PySem.Spec PyProof.Rows L2
section
variable {X : Cx} {G : Wd} {E : EK}
end
end Mir
namespace Mir
open PySem L2
theorem passAll {CX : CXT} {X : Cx} {E : XK} (h : Passes CX X E) : ∀ σ, PassesAt CX X σ ((fun _ => E) σ) := fun σ pins H s e s' I c => h pins σ H s e s' I c
end Mir
set_option maxHeartbeats 4000000
namespace Mir
open PySem PySem.Spec PyProof.Rows L2
section
variable {X : Cx} {k : Nat} {f C : Addr} {fd : FuncData} {ps : List Str} {sp : Sp} {x : Str} {p pos : Pos} {e : Expr} {es : List Expr} {t : TA}
theorem run_makeG {dvs : List V} {ds : List Value} {E : XK} {pins : List (Addr × Obj)} {σ : L2.St} {H : Hp} {s : Shared} {Q : VK} {us : List Value} {vs : List V} (M : Mk X.K C f) (F : FnG X.prog X.w X.K X.mg X.base k f fd ps sp) (hg0 : X.A.guards = some []) (hr : Room (k + 1) X.A) (hb : Binds X.K fd ps ds) (hd : Vals dvs ds) (hx : PassesAt (L2.CX X.prog X.w) X σ E) (I : Inv X pins σ H s) (r : Vals vs us)
    (h : ∀ x dx : Addr, H x = none → H dx = none → dx ≠ x → sp (.ref x :: (vs ++ dvs)) (upd (upd H dx (.own x)) x (.ins C dx [])) (fun v H2 => v = .non ∧ Q (.ref x) H2) E) :
    wpAny (model X.prog X.w) X.A (call (.ref C) us) (EP X pins σ Q) X.xe s := by
  have hq := h (s.heap.objs.size + 1) s.heap.objs.size (I.hok.fresh (Nat.le_succ _)) (I.hok.fresh (Nat.le_refl _)) (Nat.ne_of_lt (Nat.lt_succ_self _))
  have I2 := Inv.made (C := C) I
  have r2 : Vals (.ref (s.heap.objs.size + 1) :: (vs ++ dvs)) (.ref (s.heap.objs.size + 1) :: (us ++ ds)) := Paired.cons rfl (Vals.append r hd)
  have hl : ((.ref (s.heap.objs.size + 1) : Value) :: (us ++ ds)).length = ps.length := by
    rw [← r2.length]
    exact F.arity _ _ _ _ hq
  refine wpAny_call (make_map I.kIn M.makes M.init (beq_iff_eq.mp M.fn) (codeAny_mono (F.go (X.A.under (Code.builtin "type.__call__" { pos := Value.ref C :: us })) X.stack _ _ { pos := Value.ref (s.heap.objs.size + 1) :: us } (Value.ref (s.heap.objs.size + 1) :: (us ++ ds)) _ _ E hg0 (Room.make hr C us []) (Env0.make I2.env0 C us []) (hb _ (Value.ref (s.heap.objs.size + 1) :: us) I2.kIn hl) r2 hq) fun r s' hq' => ?_))
  match r, hq' with
  | .error e, hq' => exact hx pins _ _ e s' I2 hq'
  | .ok (.ret u), hq' =>
    obtain ⟨v, H', I3, rv, rfl, q3⟩ := Inv.after I2 hq'
    exact ⟨rv, .ref (s.heap.objs.size + 1), H', I3, rfl, q3⟩
def tMakeG (C : Addr) (sp : Sp) (E : EK) (t : TA) : TE := fun σ H Q => t σ H fun vs H1 => ∀ x dx : Addr, H1 x = none → H1 dx = none → dx ≠ x → sp (.ref x :: vs) (upd (upd H1 dx (.own x)) x (.ins C dx [])) (fun v H2 => v = .non ∧ Q (.ref x) H2) (E σ)
theorem peG_make {E : EK} (M : Mk X.K C f) (F : FnG X.prog X.w X.K X.mg X.base k f fd ps sp) (hg0 : X.A.guards = some []) (hr : Room (k + 1) X.A) (hg : Gl X x) (hm : X.mg x = some (.ref C)) (hb : Binds X.K fd ps []) (hx : ∀ σ, PassesAt (L2.CX X.prog X.w) X σ (E σ)) (ha : PA X (e :: es) t)
    (hdb : (x == ("__debug__" : Str)) = false) (he : starEach (e :: es) X.env = (false, eval e X.env) :: starEach es X.env) (hpl : (backTo pos (starEach es X.env)).any (·.1) = false) : PE X (.Call (.Name x p) (e :: es) [] pos) (tMakeG C sp E t) :=
  ⟨fun pins s σ H Q I h => wpAny_Call_Name_kw (ld_glob I hg hm (PySem.W.callWith_K (h₀ := X.base) I.ok.mod.kin M.kp (thn (ha.run pos pins s σ H _ I h) fun us s1 ⟨vs, H1, I1, r, q⟩ => ⟨I1.kIn, run_makeG (dvs := []) M F hg0 hr hb .nil (hx σ) I1 r (by
    intro x dx h1 h2 h3
    rw [List.append_nil]
    exact q x dx h1 h2 h3)⟩) he hpl) hdb)⟩
end
/-- slots at the start: self is not read but by its fields' rows -/
def rhoI (nN : Nat) (xs : List PV) : Rho := Slot.none :: (xs.map Slot.val ++ List.replicate (nN - 1 - xs.length) Slot.none)
theorem rhoI_own {nN : Nat} {xs : List PV} {j : Nat} {o : SO} : (rhoI nN xs)[j]? ≠ some (.own o) := fun h => by
  have := List.mem_of_getElem? h
  unfold rhoI at this
  rw [List.mem_cons, List.mem_append, List.mem_map, List.mem_replicate] at this
  rcases this with e | ⟨_, _, e⟩ | ⟨_, e⟩ <;> cases e
theorem rhoI_pin {nN : Nat} {xs : List PV} {j : Nat} {c : Str} {fs : List (Str × PV)} : (rhoI nN xs)[j]? ≠ some (.pin c fs) := fun h => by
  have := List.mem_of_getElem? h
  unfold rhoI at this
  rw [List.mem_cons, List.mem_append, List.mem_map, List.mem_replicate] at this
  rcases this with e | ⟨_, _, e⟩ | ⟨_, e⟩ <;> cases e
theorem FI.beginI {K : PySem.W.Frag} {G w : Wd} {xs : List PV} {vs : List V} {N : List Str} {p : Addr} (kg : WOk K G) (k : WOk K w) (s : WStep G w) (hN : 0 < N.length) (r : RVs K w.L w.hc xs vs) : FI K G w (rhoI N.length xs) (L2.start N (.ref p :: vs)) := by
  have e : vs.length = xs.length := r.len
  refine ⟨kg, k, s, ?_, fun i x h => ?_, fun i o h => absurd h rhoI_own, fun i j oi oj _ h => absurd h rhoI_own, fun i c fs h => absurd h rhoI_pin⟩
  · unfold rhoI L2.start
    simp [e]
    omega
  · cases i with
    | zero => cases h
    | succ i =>
      have h : (xs.map Slot.val ++ List.replicate (N.length - 1 - xs.length) Slot.none)[i]? = some (.val x) := h
      by_cases hi : i < xs.length
      · rw [List.getElem?_append_left (by simpa using hi), List.getElem?_map] at h
        rw [List.getElem?_eq_getElem hi] at h
        cases h
        obtain ⟨v, e1, e2⟩ := r.get (List.getElem?_eq_getElem hi)
        refine ⟨v, ?_, e2⟩
        unfold L2.start
        rw [List.getElem?_append_left (by simp [e]; omega)]
        show ((List.map some vs))[i]? = _
        rw [List.getElem?_map, e1]
        rfl
      · rw [List.getElem?_append_right (by simpa using hi)] at h
        have := List.mem_of_getElem? h
        rw [List.mem_replicate] at this
        cases this.2
/-- a statement that stores nothing -/
def StSim (K : PySem.W.Frag) (mg : Str → Option Value) (G : Wd) (E : EK) (ts : TS) (f : Rho → Store → Res Unit) : Prop := ∀ w ρ σ D, FI K G w ρ σ → Good (f ρ w.S) (fun _ S' => ∀ w', w'.S = S' → WStep w w' → WOk K w' → D.nx σ w'.H) (ExP K mg (E σ) G) → ts D σ w.H
def mGuard (t : Rho → Store → Res Bool) (r : Rho → Store → Res Out) : Rho → Store → Res Unit := fun ρ S => (t ρ S).bind fun c S1 => if c then (r ρ S1).bind fun _ _ => .bad else .ok () S1
section
variable {K : PySem.W.Frag} {mg : Str → Option Value} {G : Wd} {E : EK}
theorem st_guard {tt ft tr fr} (ht : TSim K mg G E tt ft) (hr : SSim K mg G E tr fr) : StSim K mg G E (tIfS tt tr tNext) (mGuard ft fr) := fun w ρ σ D I q => by
  refine ht w ρ σ _ I (Good.imp (Good.bind1 q) (fun c S1 h1 => ?_) fun _ _ _ h => h.step I.stp I.gok I.ok)
  intro w1 e1 s1 k1
  subst e1
  cases c with
  | false => exact h1 w1 rfl s1 k1
  | true =>
    have h1 : Good ((fr ρ w1.S).bind fun _ _ => (.bad : Res Unit)) _ _ := h1
    refine hr w1 ρ σ D (I.step s1 k1) ?_
    cases e : fr ρ w1.S with
    | ok o S2 => rw [e] at h1; exact h1.elim
    | exc c fs S2 => rw [e] at h1; exact h1
    | bad => rw [e] at h1; exact h1.elim
theorem putF_new {f : Str} {y : V} : ∀ {fs : List (Str × V)}, f ∉ fs.map (·.1) → putF f y fs = fs ++ [(f, y)]
  | [], _ => rfl
  | a :: r, h => by
    simp only [List.map_cons, List.mem_cons, not_or] at h
    unfold putF
    rw [if_neg (fun e => h.1 e.symm), putF_new h.2]
    rfl
def mFields : List (Rho → Store → Res PV) → Rho → Store → Res (List PV)
  | [], _, S => .ok [] S
  | f :: fs, ρ, S => (f ρ S).bind fun y S1 => (mFields fs ρ S1).bind fun ys S2 => .ok (y :: ys) S2
/-- self.f = e, one behind the other -/
inductive FlS (K : PySem.W.Frag) (mg : Str → Option Value) (G : Wd) (E : EK) : List Str → TS → List (Rho → Store → Res PV) → Prop
  | nil : FlS K mg G E [] tNext []
  | cons {f : Str} {te fe ns t fs} : ESim K mg G E te fe → FlS K mg G E ns t fs → FlS K mg G E (f :: ns) (tSeq (sFld K (tVar 0) te f) t) (fe :: fs)
theorem fields_sim {c : Str} {p dx : Addr} {ρ : Rho} {σ : L2.St} {D : Ends} (hG : G.H p = none) (hσ : σ[0]? = some (some (.ref p))) (hown : ∀ (j : Nat) (o : SO), ρ[j]? ≠ some (.own o)) (hC : Cls K (He.ga K c)) : ∀ {ns : List Str} {t : TS} {fs : List (Rho → Store → Res PV)}, FlS K mg G E ns t fs → ∀ (w : Wd) (dn : List Str) (xs : List PV) (vs : List V), FI K G w ρ σ → w.H p = some (.ins (He.ga K c) dx (dn.zip vs)) → RVs K w.L w.hc xs vs → xs.length = dn.length → p ∈ w.O → p ∉ w.L → (∀ f ∈ ns, NoAttr K (He.ga K c) f) → (dn ++ ns).Nodup → dn.length + ns.length < 1000 →
    Good (mFields fs ρ w.S) (fun ys S' => ∀ w', w'.S = S' → WStep G w' → WOk K w' → p ∈ w'.O → p ∉ w'.L → SOk K w'.L w'.hc (w'.H p) (.ins c (dn ++ ns) (xs ++ ys)) → D.nx σ w'.H) (ExP K mg (E σ) G) → t D σ w.H := by
  intro ns t fs hf
  induction hf with
  | nil =>
    intro w dn xs vs I hp r hl hO hL _ _ _ q
    refine q w rfl I.stp I.ok hO hL ?_
    rw [List.append_nil, List.append_nil]
    exact ⟨dx, vs, hp, hl, r⟩
  | @cons f te fe ns t fs he _ ih =>
    intro w dn xs vs I hp r hl hO hL hn hd hz q
    refine he w ρ σ _ I (Good.imp (Good.bind1 q) (fun y S1 h1 => ?_) fun _ _ _ h => h.step I.stp I.gok I.ok)
    intro w1 v e1 s1 k1 r1
    subst e1
    have hp1 : w1.H p = some (.ins (He.ga K c) dx (dn.zip vs)) := s1.keep p _ hp hL
    have hO1 := s1.omono p hO
    have hL1 : p ∉ w1.L := fun z => by
      rcases s1.lset p z with y | y
      · exact hL y
      · rw [hp] at y; cases y
    have rl : vs.length = dn.length := r.len.trans hl
    have rm := r.mono s1.pre (s1.ext I.ok.sub)
    refine ⟨.ref p, hσ, p, He.ga K c, dx, dn.zip vs, rfl, hp1, hC, hn f List.mem_cons_self, by rw [List.length_zip]; rw [List.length_cons] at hz; omega, ?_⟩
    have fresh : f ∉ (dn.zip vs).map (·.1) := by
      rw [List.map_fst_zip (by omega)]
      intro hm
      rw [List.nodup_append] at hd
      exact hd.2.2 f hm f List.mem_cons_self rfl
    rw [putF_new fresh]
    have ez : dn.zip vs ++ [(f, v)] = (dn ++ [f]).zip (vs ++ [v]) := by
      rw [List.zip_append rl.symm]
      rfl
    rw [ez]
    have I1 := I.step s1 k1
    have k2 := wr_ok (ho := .ins (He.ga K c) dx ((dn ++ [f]).zip (vs ++ [v]))) k1 hO1 hL1
    have I2 : FI K G (w1.wr p (.ins (He.ga K c) dx ((dn ++ [f]).zip (vs ++ [v])))) ρ σ := by
      refine ⟨I1.gok, k2, wr_step I1.stp hG, I1.len, fun j x e => ?_, fun j o e => absurd e (hown j o), fun i j oi oj _ e => absurd e (hown i oi), fun j cc fs e => ?_⟩
      · rw [wr_hc hO1]; exact I1.val j x e
      · rw [wr_hc hO1]; exact I1.pin j cc fs e
    refine ih (w1.wr p (.ins (He.ga K c) dx ((dn ++ [f]).zip (vs ++ [v])))) (dn ++ [f]) (xs ++ [y]) (vs ++ [v]) I2 (by show upd w1.H p _ p = _; rw [upd_same]) (by rw [wr_hc hO1]; exact RVs.append rm (RVs.one r1)) (by rw [List.length_append, List.length_append, hl]; rfl) hO1 hL1 (fun g hg => hn g (List.mem_cons_of_mem _ hg)) (by rw [List.append_assoc]; exact hd) (by rw [List.length_append, List.length_cons, List.length_nil]; rw [List.length_cons] at hz; omega) (Good.imp (Good.bind1 h1) (fun ys S2 h2 => ?_) fun _ _ _ h => h)
    intro w' e' s' k' o' l' sk
    rw [List.append_assoc, List.append_assoc] at sk
    exact h2 w' e' s' k' o' l' sk
def mBody : List (Rho → Store → Res Unit) → List (Rho → Store → Res PV) → Rho → Store → Res (List PV)
  | [], fs, ρ, S => mFields fs ρ S
  | g :: gs, fs, ρ, S => (g ρ S).bind fun _ S1 => mBody gs fs ρ S1
inductive BdS (K : PySem.W.Frag) (mg : Str → Option Value) (G : Wd) (E : EK) (ns : List Str) : TS → List (Rho → Store → Res Unit) → List (Rho → Store → Res PV) → Prop
  | fl {t fs} : FlS K mg G E ns t fs → BdS K mg G E ns t [] fs
  | gd {tg g t gs fs} : StSim K mg G E tg g → BdS K mg G E ns t gs fs → BdS K mg G E ns (tSeq tg t) (g :: gs) fs
theorem body_sim {c : Str} {p dx : Addr} {ρ : Rho} {σ : L2.St} {ns : List Str} (hG : G.H p = none) (hσ : σ[0]? = some (some (.ref p))) (hown : ∀ (j : Nat) (o : SO), ρ[j]? ≠ some (.own o)) (hC : Cls K (He.ga K c)) (hn : ∀ f ∈ ns, NoAttr K (He.ga K c) f) (hd : ns.Nodup) (hz : ns.length < 1000) : ∀ {t : TS} {gs : List (Rho → Store → Res Unit)} {fs : List (Rho → Store → Res PV)}, BdS K mg G E ns t gs fs → ∀ (w : Wd) (D : Ends), FI K G w ρ σ → w.H p = some (.ins (He.ga K c) dx []) → p ∈ w.O → p ∉ w.L →
    Good (mBody gs fs ρ w.S) (fun ys S' => ∀ w', w'.S = S' → WStep G w' → WOk K w' → p ∈ w'.O → p ∉ w'.L → SOk K w'.L w'.hc (w'.H p) (.ins c ns ys) → D.nx σ w'.H) (ExP K mg (E σ) G) → t D σ w.H := by
  intro t gs fs hb
  induction hb with
  | fl hf =>
    intro w D I hp hO hL q
    exact fields_sim hG hσ hown hC hf w [] [] [] I hp rfl rfl hO hL hn (by simpa using hd) (by simpa using hz) q
  | @gd tg g t gs fs hg _ ih =>
    intro w D I hp hO hL q
    refine hg w ρ σ _ I (Good.imp (Good.bind1 q) (fun _ S1 h1 => ?_) fun _ _ _ h => h)
    intro w1 e1 s1 k1
    subst e1
    have hL1 : p ∉ w1.L := fun z => by
      rcases s1.lset p z with y | y
      · exact hL y
      · rw [hp] at y; cases y
    exact ih w1 D (I.step s1 k1) (s1.keep p _ hp hL) (s1.omono p hO) hL1 h1
/-- what __init__ promises -/
def spI (K : PySem.W.Frag) (mg : Str → Option Value) (c : Str) (ns : List Str) (n : Nat) (m : List PV → Store → Res (List PV)) : Sp := fun vs H Q E => ∃ (p dx : Addr) (us : List V) (xs : List PV) (G w : Wd), vs = .ref p :: us ∧ w.H = H ∧ WOk K G ∧ WOk K w ∧ WStep G w ∧ G.H p = none ∧ w.H p = some (.ins (He.ga K c) dx []) ∧ p ∈ w.O ∧ p ∉ w.L ∧ RVs K w.L w.hc xs us ∧ xs.length = n ∧ w.L = G.L ∧ w.S = G.S ∧
  Good (m xs w.S) (fun ys S' => ∀ w', w'.S = S' → WStep G w' → WOk K w' → p ∈ w'.O → p ∉ w'.L → SOk K w'.L w'.hc (w'.H p) (.ins c ns ys) → Q .non w'.H) (ExP K mg E G)
def mInit (nN : Nat) (gs : List (Rho → Store → Res Unit)) (fs : List (Rho → Store → Res PV)) : List PV → Store → Res (List PV) := fun xs S => mBody gs fs (rhoI nN xs) S
end
theorem ok_initG {P : Program} {w : World} {K : PySem.W.Frag} {mg : Str → Option Value} {base : Heap} {qual c : Str} {st : Stmt} {f : Addr} {fd : FuncData} {N ps : List Str} {ns : List Str} {k n : Nat} {gs : List (Rho → Store → Res Unit)} {fs : List (Rho → Store → Res PV)}
    (F : Fun K "__init__" qual st f fd) (S : FnScope N ps (defScope st)) (hps : ps.length = n + 1) (hN : 0 < N.length) (hC : Cls K (He.ga K c)) (hn : ∀ f ∈ ns, NoAttr K (He.ga K c) f) (hd : ns.Nodup) (hz : ns.length < 1000)
    (body : ∀ (cdv : Value) (A : Around) (outer : List Env) (s : Shared) (H : Hp) (E : XK), A.guards = some [] → Room k (A.deeper (envOfC qual (defScope st) s.heap.objs.size f cdv)) →
      ∃ ts, PSs (cxOf (L2.CX P w) P w K mg base N qual (defScope st) f cdv A outer s H E) (defBody st) ts ∧ ∀ G, BdS K mg G (fun _ => E) ns ts gs fs) :
    FnG P w K mg base (k + 1) f fd ps (spI K mg c ns n (mInit N.length gs fs)) := by
  refine fnG_of F S (fun vs H Q E ⟨p, dx, us, xs, G, w, e, _, _, _, _, _, _, _, _, r, hl, _, _, _⟩ => by rw [e, List.length_cons, hps, r.len, hl]) fun cdv A outer s H vs Q E hg hr h => ?_
  obtain ⟨ts, hp, hb⟩ := body cdv A outer s H E hg hr
  obtain ⟨p, dx, us, xs, G, w0, rfl, rfl, kG, k0, s0, h1, h2, h3, h4, r, hl, _, _, q⟩ := h
  refine ⟨ts, hp, ?_⟩
  have I := FI.beginI (N := N) (p := p) kG k0 s0 hN r
  refine body_sim h1 ?_ (fun j o => rhoI_own) hC hn hd hz (hb G) w0 _ I h2 h3 h4 q
  unfold L2.start
  rfl
end Mir
set_option maxHeartbeats 4000000
namespace Mir
open PySem PySem.Spec PyProof.Rows L2
def mMake (n : Nat) (c : Str) (ns : List Str) (m : List PV → Store → Res (List PV)) (fa : Rho → Store → Res (List PV)) : Rho → Store → Res PV := fun ρ S => (fa ρ S).bind fun xs S1 => if xs.length = n then (m xs S1).bind fun ys S2 => .ok (.ins c ns ys) S2 else .bad
theorem sim_make {K : PySem.W.Frag} {mg : Str → Option Value} {G : Wd} {E : EK} {n : Nat} {c : Str} {ns : List Str} {m : List PV → Store → Res (List PV)} {t : TA} {fa} (ha : ASim K mg G E t fa) : ESim K mg G E (tMakeG (He.ga K c) (spI K mg c ns n m) E t) (mMake n c ns m fa) := fun w ρ σ Q I q => by
  refine ha w ρ σ _ I (Good.imp (Good.bind1 q) (fun xs S1 h1 => ?_) fun _ _ _ h => h)
  intro w1 vs e1 s1 k1 r1
  subst e1
  obtain ⟨hl, h1⟩ := good_if h1
  intro x dx hx hdx hne
  have k2 := put_ok (o := .own x) k1 hdx
  have st2 := put_step (o := .own x) k1 hdx
  have hx2 : (w1.put dx (.own x)).H x = none := by
    show upd w1.H dx _ x = none
    rw [upd_ne (Ne.symm hne)]
    exact hx
  have k3 := laid_ok (o := .ins (He.ga K c) dx []) k2 hx2
  have st3 := laid_step (o := .ins (He.ga K c) dx []) k2 hx2
  have s13 := st2.tr st3 k1 k2
  have hxL : x ∉ w1.L := k1.ninL hx
  refine ⟨x, dx, vs, xs, w1, (w1.put dx (.own x)).laid x (.ins (He.ga K c) dx []), rfl, rfl, k1, k3, s13, hx, ?_, List.mem_cons_self, hxL, r1.mono s13.pre (s13.ext k1.sub), hl, rfl, rfl, Good.imp (Good.bind1 h1) (fun ys S2 h2 => ?_) fun _ _ _ h => h.step s1 I.ok k1⟩
  · show upd _ x _ x = _
    rw [upd_same]
  · intro w' e' s' k' hO hL sk
    refine ⟨rfl, post_call I.ok k1 s1 h2 w' (.ref x) e' s' k' ?_⟩
    obtain ⟨dx', vs', hp, hl', r'⟩ := sk
    have hxO : x ∉ w1.O := k1.nin hx
    have nin : x ∉ w1.O ++ w'.L := fun z => (List.mem_append.mp z).elim hxO hL
    refine ⟨x, dx', vs', rfl, ?_, hl', r'.mono (List.prefix_refl _) fun a o h => ?_⟩
    · rw [cut_out nin]; exact hp
    · obtain ⟨z1, z2⟩ := cut_some h
      rw [cut_out fun z => z1 ((List.mem_append.mp z).elim (s'.omono a) (k'.sub a))]
      exact z2
theorem ke_make {P : Program} {w : World} {K : PySem.W.Frag} {mg : Str → Option Value} {base : Heap} {X : Cx} {G : Wd} {E : EK} {k n : Nat} {c : Str} {ns : List Str} {f : Addr} {fd : FuncData} {ps : List Str} {m : List PV → Store → Res (List PV)} {p pos e es t fa} (M : Mk K (He.ga K c) f) (F : FnG P w K mg base k f fd ps (spI K mg c ns n m)) (hg0 : X.A.guards = some []) (hr : Room (k + 1) X.A) (hm : mg c = some (.ref (He.ga K c)))
    (hb : Binds K fd ps []) (hx : ∀ σ, PassesAt (L2.CX P w) X σ (E σ)) (ha : FA X G E (e :: es) t fa) (ci : CtxIs X P w K mg base := by exact ⟨rfl, rfl, rfl, rfl, rfl⟩) (hg : Gl X c := by rfl) (hdb : (c == ("__debug__" : Str)) = false := by decide) (he : starEach (e :: es) X.env = (false, eval e X.env) :: starEach es X.env := by rfl)
    (hpl : (backTo pos (starEach es X.env)).any (·.1) = false := by rfl) : FE X G E (.Call (.Name c p) (e :: es) [] pos) (tMakeG (He.ga K c) (spI K mg c ns n m) E t) (mMake n c ns m fa) := by
  obtain ⟨rfl, rfl, rfl, rfl, rfl⟩ := ci
  exact ⟨peG_make M F hg0 hr hg hm hb hx ha.pe hdb he hpl, sim_make ha.sim⟩
theorem zip_lookup {K : PySem.W.Frag} {L : List Addr} {Hc : Hp} {f : Str} {x : PV} : ∀ {ns : List Str} {xs : List PV} {vs : List V}, RVs K L Hc xs vs → (ns.zip xs).lookup f = some x → ∃ v, (ns.zip vs).lookup f = some v ∧ RV K L Hc x v
  | [], xs, vs, _, h => by simp at h
  | n :: ns, [], vs, _, h => by simp at h
  | n :: ns, y :: xs, vs, r, h => by
    obtain ⟨u, us, rfl, r1, r2⟩ := r
    simp only [List.zip_cons_cons, List.lookup_cons] at h ⊢
    cases e : f == n with
    | true =>
      rw [e] at h
      cases h
      exact ⟨u, rfl, r1⟩
    | false =>
      rw [e] at h
      exact zip_lookup r2 h
def mFldI (c f : Str) (fe : Rho → Store → Res PV) : Rho → Store → Res PV := fun ρ S => (fe ρ S).bind fun x S1 => match x with
  | .ins c' ns xs => if c' = c then (match (ns.zip xs).lookup f with
    | some y => .ok y S1
    | none => .bad) else .bad
  | _ => .bad
theorem sim_fldI {K : PySem.W.Frag} {mg : Str → Option Value} {G : Wd} {E : EK} {c f : Str} {te fe} (hC : Cls K (He.ga K c)) (hn : NoAttr K (He.ga K c) f) (he : ESim K mg G E te fe) : ESim K mg G E (L2.tFld K te f) (mFldI c f fe) := fun w ρ σ Q I q => by
  refine he w ρ σ _ I (Good.imp (Good.bind1 q) (fun x S1 h1 => ?_) fun _ _ _ h => h)
  intro w1 v e1 s1 k1 r1
  subst e1
  cases x <;> first | exact h1.elim | skip
  rename_i c' ns xs
  obtain ⟨a, dx, vs, rfl, hp, hl, r2⟩ := r1
  obtain ⟨rfl, h2⟩ := good_if h1
  cases e : (ns.zip xs).lookup f with
  | none => rw [e] at h2; exact h2.elim
  | some y =>
    rw [e] at h2
    obtain ⟨u, e2, r3⟩ := zip_lookup r2 e
    exact ⟨a, _, dx, _, u, rfl, (cut_some hp).2, hC, hn, e2, h2 w1 u rfl s1 k1 r3⟩
theorem fe_fldI {K : PySem.W.Frag} {X : Cx} {G : Wd} {E : EK} {c f : Str} {e : Expr} {pos : Pos} {te fe} (hC : Cls K (He.ga K c)) (hn : NoAttr K (He.ga K c) f) (he : FE X G E e te fe) (hK : X.K = K := by rfl) (hb : attributeBase e f X.env (eval e X.env) = eval e X.env := by rfl) : FE X G E (.Attribute e f pos) (L2.tFld K te f) (mFldI c f fe) := by
  subst hK
  exact ⟨pe_fld he.pe hb, sim_fldI hC hn he.sim⟩
structure KCls (K : PySem.W.Frag) (mg : Str → Option Value) (c : Str) (f : Addr) (ns : List Str) : Prop where
  M : Mk K (He.ga K c) f
  C : Cls K (He.ga K c)
  n : ∀ f ∈ ns, NoAttr K (He.ga K c) f
  g : mg c = some (.ref (He.ga K c))
  c1 : PySem.W.findIn K (.ref (He.ga K c)) "__class__" = some (some (.builtin "object.__class__"))
  c2 : PySem.W.specialIn K (.builtin "object.__class__") "__get__" = some (some (.builtin "getset_descriptor.__get__"))
  c3 : PySem.W.takesIn K (.builtin "object.__class__") = some true
  c4 : PySem.W.mroIn K (He.ga K c) (.type "object") = some true
  k : PySem.W.kitOne K (.ref (He.ga K c)) (.ref (He.ga K c)) = some true
/-- isinstance(e, c), e an instance of c -/
def mIsiC (c : Str) (f : Rho → Store → Res PV) : Rho → Store → Res PV := fun ρ S => (f ρ S).bind fun x S1 => match x with
  | .ins c' _ _ => if c' = c then .ok (.bl true) S1 else .bad
  | _ => .bad
def kclsB (K : PySem.W.Frag) (c : Str) (ns : List Str) : Bool :=
  He.eqO (PySem.W.nsIn K mainGlobals c) (some (some (.ref (He.ga K c)))) && (PySem.W.makesIn K (He.ga K c) && (He.eqO (PySem.W.findIn K (.ref (He.ga K c)) "__init__") (some (some (.ref (He.fAd K (c, some "__init__"))))) && (PySem.W.isFn K (.ref (He.fAd K (c, some "__init__"))) &&
  (PySem.W.keepIn K (.ref (He.ga K c)) && (PySem.W.plainGet K (He.ga K c) Str.empty && (PySem.W.hasDictIn K (He.ga K c) && (PySem.W.plainOver K (He.ga K c) && (He.eqO (PySem.W.findIn K (.ref (He.ga K c)) "__setattr__") (some (some (.builtin "object.__setattr__"))) &&
  ((ns.all fun f => He.eqO (PySem.W.findIn K (.ref (He.ga K c)) f) (some none)) && (He.eqO (PySem.W.findIn K (.ref (He.ga K c)) "__class__") (some (some (.builtin "object.__class__"))) && (He.eqO (PySem.W.specialIn K (.builtin "object.__class__") "__get__") (some (some (.builtin "getset_descriptor.__get__"))) &&
  (decide (PySem.W.takesIn K (.builtin "object.__class__") = some true) && (decide (PySem.W.mroIn K (He.ga K c) (.type "object") = some true) && decide (PySem.W.kitOne K (.ref (He.ga K c)) (.ref (He.ga K c)) = some true))))))))))))))
theorem kcls_ok {K : PySem.W.Frag} {h : Heap} {mg : Str → Option Value} {c : Str} {ns : List Str} (X : K.In h) (G : h.Ns mainGlobals mg) (q : kclsB K c ns = true) : KCls K mg c (He.fAd K (c, some "__init__")) ns := by
  obtain ⟨h1, q⟩ := He.ba q
  obtain ⟨h2, q⟩ := He.ba q
  obtain ⟨h3, q⟩ := He.ba q
  obtain ⟨h4, q⟩ := He.ba q
  obtain ⟨h5, q⟩ := He.ba q
  obtain ⟨h6, q⟩ := He.ba q
  obtain ⟨h7, q⟩ := He.ba q
  obtain ⟨h8, q⟩ := He.ba q
  obtain ⟨h9, q⟩ := He.ba q
  obtain ⟨h10, q⟩ := He.ba q
  obtain ⟨h11, q⟩ := He.ba q
  obtain ⟨h12, q⟩ := He.ba q
  obtain ⟨h13, q⟩ := He.ba q
  obtain ⟨h14, h15⟩ := He.ba q
  exact ⟨⟨h2, He.eqO_ok h3, h4, h5⟩, ⟨h6, h7, h8, He.eqO_ok h9⟩, fun f hf => He.eqO_ok (List.all_eq_true.mp h10 f hf), PySem.W.mg_of X G (He.eqO_ok h1), He.eqO_ok h11, He.eqO_ok h12, of_decide_eq_true h13, of_decide_eq_true h14, of_decide_eq_true h15⟩
end Mir
set_option maxHeartbeats 4000000
namespace Mir
open PySem PySem.Spec PyProof.Rows L2
/-- Pt D H y z H': D[y] = z leads from H to H' -/
def PutOk (X : Cx) (Pt : Addr → Hp → V → V → Hp → Prop) : Prop := ∀ (pins : List (Addr × Obj)) (σ : L2.St) (H : Hp) (s : Shared) (D : Addr) (y z : V) (H' : Hp) (u r : Value) (Z : Value → Shared → Prop) (Q : Unit → Shared → Prop),
  Inv X pins σ H s → Pt D H y z H' → RelV y u → RelV z r → (∀ s', Inv X pins σ H' s' → Q () s') → wpAny (model X.prog X.w) X.A (dictSet D u r) Q Z s
/-- what one turn must do -/
def TurnD (Pt : Addr → Hp → V → V → Hp → Prop) (g : TG) (tt : TT) (tk tv : TE) (vs : List Nat) (σ : L2.St) (D : Addr) (x : V) (H : Hp) (Nx : Hp → Prop) : Prop :=
  g x (L2.wipe σ vs) H fun σ2 H2 => L2.wipe σ2 vs = L2.wipe σ vs ∧ tt σ2 H2 fun b H3 => if b = true then tk σ2 H3 fun y H4 => tv σ2 H4 fun z H5 => ∃ H6, Pt D H5 y z H6 ∧ Nx H6 else Nx H3
def tDcG (o0 : Addr → HO) (Pt : Addr → Hp → V → V → Hp → Prop) (wi : TI) (g : TG) (tt : TT) (tk tv : TE) (vs : List Nat) : TE := fun σ H Q => wi σ H fun J H1 => ∀ D, H1 D = none → ∃ W : Nat → Nat → Hp → Prop, (∃ m, W 0 m (upd H1 D (o0 D))) ∧ ∀ i m H, W i m H →
  (J.stop i H ∧ Q (.ref D) H) ∨ (J.go i H ∧ ∃ Nx : Hp → Prop, (∀ H', Nx H' → ∃ m', m' < m ∧ W (i + 1) m' H') ∧ ∀ x H', J.yld i H x H' → TurnD Pt g tt tk tv vs σ D x H' Nx)
section
variable {X : Cx}
theorem pe_dcG {o0 : Addr → HO} {Pt : Addr → Hp → V → V → Hp → Prop} {kx vx tg iter : Expr} {ifs : List Expr} {scope : Scope} {own : List (Str × Nat)} {pos : Pos} {wi : TI} {g : TG} {tt : TT} {tk tv : TE} (hc : X.calm = true) (hN : X.N.Nodup)
    (h0 : ∀ (H : Hp) (h : Heap), sysModules < h.objs.size → ObjOk X.prog X.w H (h.push { cls := .type "dict", data := .dict #[] }) h.objs.size (o0 h.objs.size))
    (hp : ∀ (s : Shared) (H : Hp) (ce : Env) (fp : List Addr), PutOk (X.blk s H scope ce fp) Pt) (hi : PI X tg iter wi) (ok : BlkOk X.N X.env.scope scope own)
    (hg : ∀ (s : Shared) (H : Hp) (C : Addr) (cl : List (Str × Addr)) (fp : List Addr), PG (X.blk s H scope (compEnvC scope cl C X.env) fp) tg g) (ht : ∀ (s : Shared) (H : Hp) (C : Addr) (cl : List (Str × Addr)) (fp : List Addr), PTs (X.blk s H scope (compEnvC scope cl C X.env) fp) ifs tt)
    (hk : ∀ (s : Shared) (H : Hp) (C : Addr) (cl : List (Str × Addr)) (fp : List Addr), PE (X.blk s H scope (compEnvC scope cl C X.env) fp) kx tk)
    (hv : ∀ (s : Shared) (H : Hp) (C : Addr) (cl : List (Str × Addr)) (fp : List Addr), PE (X.blk s H scope (compEnvC scope cl C X.env) fp) vx tv) (hs : ∀ x, foldedSetIterable iter X.env x = pure x := by intro _; rfl) :
    PE X (.DictComp kx vx [⟨tg, iter, ifs, 0⟩] scope pos) (tDcG o0 Pt wi g tt tk tv (own.map (·.2))) := by
  refine ⟨fun pins s σ H Q J0 hq => ?_⟩
  rw [arm_eval_DictComp]
  have frees : ∀ y ∈ scope.names, y.2 = .free → ∃ c, X.env.cells.lookup y.1 = some c := fun y hy e => (ok.free y hy e).elim (fun k => J0.ok.has _ (.inl k)) fun k => J0.ok.has _ (.inr k)
  refine wpAny_comprehension_free (use := none) rfl hs (closure_ok frees) ok.kind (fun y hy e => by rw [ok.uniq y hy, e]) (thn (hi.run pins s σ H _ J0 hq) fun _ t1 w1 => thn w1 fun _ t2 w2 => ?_)
  obtain ⟨it, fp, tn, J, H2, rfl, J2, T, beg, fine, q⟩ := w2
  refine wpAny_newObj_type (newEnv_comp ?_)
  obtain ⟨W, ⟨m0, b0⟩, turn⟩ := q t2.heap.objs.size (J2.hok.fresh (Nat.le_refl _))
  -- the new dict
  obtain ⟨t3, e3⟩ : ∃ t3 : Shared, t3 = { t2 with heap := t2.heap.push { cls := .type "dict", data := .dict #[] } } := ⟨_, rfl⟩
  have J3 : Inv X pins σ (upd H2 t2.heap.objs.size (o0 t2.heap.objs.size)) t3 := by
    rw [e3]
    exact J2.laid (t' := t2.toks) (fun b o e => Heap.get?_push_of_some _ e) (Nat.le_refl _) (h0 _ t2.heap J2.big)
  have p3 : t3.heap = t2.heap.push { cls := .type "dict", data := .dict #[] } := by rw [e3]
  have low : ∀ b ∈ fp, b < t2.heap.objs.size := fun b hb => let ⟨_, e, _⟩ := T.obj _ _ beg b hb; Heap.lt_size e
  have fine3 : ∀ b ∈ fp, FpOk X pins (upd H2 t2.heap.objs.size (o0 t2.heap.objs.size)) b ∧ b < t3.heap.objs.size := fun b hb =>
    ⟨⟨by rw [upd_ne (Nat.ne_of_lt (low b hb))]; exact (fine b hb).1, (fine b hb).2⟩, by rw [p3, Heap.size_push]; exact Nat.lt_succ_of_lt (low b hb)⟩
  have beg3 : tn 0 t3.heap := T.keep _ _ _ beg fun b _ o e => by rw [p3]; exact Heap.get?_push_of_some _ e
  have J4 := block_start J3 ok hN fine3
  have Gt := hg t3 (upd H2 t2.heap.objs.size (o0 t2.heap.objs.size)) t3.heap.objs.size (cellsFrom (t3.heap.objs.size + 1) scope.names (cloFrom X.env.cells scope.names [])) fp
  have Tt := ht t3 (upd H2 t2.heap.objs.size (o0 t2.heap.objs.size)) t3.heap.objs.size (cellsFrom (t3.heap.objs.size + 1) scope.names (cloFrom X.env.cells scope.names [])) fp
  have Kt := hk t3 (upd H2 t2.heap.objs.size (o0 t2.heap.objs.size)) t3.heap.objs.size (cellsFrom (t3.heap.objs.size + 1) scope.names (cloFrom X.env.cells scope.names [])) fp
  have Vt := hv t3 (upd H2 t2.heap.objs.size (o0 t2.heap.objs.size)) t3.heap.objs.size (cellsFrom (t3.heap.objs.size + 1) scope.names (cloFrom X.env.cells scope.names [])) fp
  have Pp := hp t3 (upd H2 t2.heap.objs.size (o0 t2.heap.objs.size)) (compEnvC scope (cellsFrom (t3.heap.objs.size + 1) scope.names (cloFrom X.env.cells scope.names [])) t3.heap.objs.size X.env) fp
  have nof : ∀ b ∈ fp, (upd H2 t2.heap.objs.size (o0 t2.heap.objs.size)) b = none := fun b hb => (fine3 b hb).1.1
  rw [← e3]
  show codeAny _ _ (.compStart (.DictComp kx vx [⟨tg, iter, ifs, 0⟩] scope pos) 0 (.ref it) (.ref t2.heap.objs.size) (compEnvC scope (cellsFrom (t3.heap.objs.size + 1) scope.names (cloFrom X.env.cells scope.names [])) t3.heap.objs.size X.env)) (compPost (model X.prog X.w) X.A X.xe none _ (.ref t2.heap.objs.size) t3.heap.objs.size) { t3 with heap := pushCells (t3.heap.push { cls := .type "dict", data := .dict #[] }) scope.names }
  generalize t2.heap.objs.size = D at *
  have cL : (compEnvC scope (cellsFrom (t3.heap.objs.size + 1) scope.names (cloFrom X.env.cells scope.names [])) t3.heap.objs.size X.env).locals = t3.heap.objs.size := rfl
  generalize hce : compEnvC scope (cellsFrom (t3.heap.objs.size + 1) scope.names (cloFrom X.env.cells scope.names [])) t3.heap.objs.size X.env = ce at *
  generalize upd H2 D (o0 D) = H3 at *
  generalize hs4 : ({ t3 with heap := pushCells (t3.heap.push { cls := .type "dict", data := .dict #[] }) scope.names } : Shared) = t4 at *
  have beg4 : tn 0 t4.heap := T.keep _ _ _ beg3 fun b _ o e => by rw [← hs4]; exact pushCells_keeps _ _ _ _ (Heap.get?_push_of_some _ e)
  have same : ∀ {σ' : L2.St} {H' : Hp} {s' : Shared}, Inv (X.blk t3 H3 scope ce fp) [] σ' H' s' → (∀ b ∈ fp, H' b = none) → ∀ b ∈ fp, FpOk (X.blk t3 H3 scope ce fp) [] H' b := fun {σ' H' s'} J' no b hb =>
    ⟨no b hb, (J'.ok.exf b hb).1, J'.ok.exfs b hb, .inl hb, fun x c e => (J'.ok.exf b hb).2 x c e, fun p hp => absurd (show p ∈ ([] : List (Addr × Obj)) ++ [] from hp) (by simp)⟩
  have loop : codeAny (model X.prog X.w) X.A (.compLoop (.DictComp kx vx [⟨tg, iter, ifs, 0⟩] scope pos) 0 (.ref it) (.ref D) ce) (compPost (model X.prog X.w) X.A X.xe none (fun v s' => ∃ y H', Inv X pins σ H' s' ∧ RelV y v ∧ Q y H') (.ref D) t3.heap.objs.size) t4 := by
    refine compLoop_anyD (fun n s' => ∃ i H', Inv (X.blk t3 H3 scope ce fp) [] (L2.wipe σ (own.map (·.2))) H' s' ∧ tn i s'.heap ∧ (∀ b ∈ fp, H' b = none) ∧ W i n H') ?_ m0 ⟨0, H3, J4, beg4, nof, b0⟩
    rintro n t5 ⟨i, H5, J5, at5, no5, b5⟩
    rcases turn i n H5 b5 with ⟨stop, qq⟩ | ⟨go, Nx, hNx, step⟩
    · refine thnF (T.done (X.blk t3 H3 scope ce fp) rfl rfl rfl hc i [] t5 _ H5 (fun _ _ => False) J5 (same J5 no5) at5 stop) fun r t6 ⟨hr, J6⟩ => ?_
      subst hr
      have J7 : Inv X pins σ H5 t6 := J3.call' (ch := fp) J6.os J6.base J6.hok J6.bare fun b hb => let z := (fine3 b hb).1.2; ⟨z.2.2.1, z.1, z.2.2.2.1, z.2.2.2.2⟩
      have nC : H5 t3.heap.objs.size = none := by
        have z : H5 ce.locals = none := J6.free
        rwa [cL] at z
      obtain ⟨m, hn, _⟩ := J6.loc
      have hn : t6.heap.Ns ce.locals m := hn
      rw [cL] at hn
      obtain ⟨f0, f1, f2, f3, f4, f5⟩ := J3.fpOk (Nat.le_refl _) nC
      exact ⟨m, hn, fun h'' sb => ⟨.ref D, H5, J7.turned (t' := t6.toks) (fun b o hb e => (sb.2 b hb).trans e) f0 f1 f3 f4 f5, rfl, qq⟩⟩
    · refine thnF (T.item (X.blk t3 H3 scope ce fp) rfl rfl rfl hc i [] t5 _ H5 (fun _ _ => False) J5 (same J5 no5) at5 go) fun r t6 ⟨u, hr, w6⟩ => ?_
      subst hr
      refine thnF w6 fun _ t7 ⟨x, H7, J7, r7, y7, at7, no7⟩ => ?_
      have J7' := J7.pinned (same J7 no7) (T.obj _ _ at7)
      refine thnF (Gt.run _ t7 _ H7 x u _ J7' r7 (step x H7 y7)) fun _ t8 ⟨σ8, H8, J8, same8, q8⟩ => ?_
      refine thnF (Tt.run _ t8 σ8 H8 _ J8 q8) fun b t9 ⟨H9, J9, q9⟩ => ?_
      have fin : ∀ {s' : Shared} {H' : Hp}, Inv (X.blk t3 H3 scope ce fp) ([] ++ pinsAt fp t7.heap) σ8 H' s' → Nx H' → ∃ m, m < n ∧ ∃ i H', Inv (X.blk t3 H3 scope ce fp) [] (L2.wipe σ (own.map (·.2))) H' s' ∧ tn i s'.heap ∧ (∀ b ∈ fp, H' b = none) ∧ W i m H' := fun {s' H'} J' nx => by
        obtain ⟨m', hm, b'⟩ := hNx H' nx
        have pin' : ∀ b ∈ fp, ∀ o, t7.heap.get? b = some o → s'.heap.get? b = some o ∧ H' b = none := fun b hb o e =>
          let z := J'.pin (b, o) (List.mem_append_right _ (List.mem_append_right _ (mem_pinsAt hb e)))
          ⟨z.1, z.2.1⟩
        have hl : (L2.wipe σ (own.map (·.2))).length = σ8.length := by rw [← same8, wipe_length]
        refine ⟨m', hm, i + 1, H', (J'.unpinned (pins := [])).weak hl (fun j v e => by rw [← same8] at e; exact (wipe_some e).1), T.keep _ _ _ at7 fun b hb o e => (pin' b hb o e).1, fun b hb => ?_, b'⟩
        obtain ⟨o, e, _⟩ := T.obj _ _ at7 b hb
        exact (pin' b hb o e).2
      cases b with
      | false =>
        simp only [Bool.false_eq_true, if_false] at q9 ⊢
        exact fin J9 q9
      | true =>
        simp only [if_true] at q9 ⊢
        refine thnF (Kt.run _ t9 σ8 H9 _ J9 q9) fun k10 t10 ⟨yk, H10, J10, r10, q10⟩ => ?_
        refine thnF (Vt.run _ t10 σ8 H10 _ J10 q10) fun v11 t11 ⟨yv, H11, J11, r11, H12, put, nx⟩ => ?_
        exact Pp _ _ _ _ D yk yv H12 _ _ _ _ J11 put r10 r11 fun t12 J12 => fin J12 nx
  exact codeAny_compStart_dict loop (T.self X.A 0 _ _ _ beg4 loop)
end
structure DictT0 (P : Program) (w : World) (h : Heap) (a : Addr) (L : List (Addr × List Int)) : Prop where
  lo : (a == sysModules) = false
  ex : ∃ xs : List (List Int × Addr × Value), L = xs.map (fun x => (x.2.1, x.1)) ∧ ∃ o es ep, h.get? a = some o ∧ o.ExactDict ∧ o.data = .dict es ep ∧ es.toList = xs.map (entryOfKey (tupleKind (intKind P w))) ∧ (xs.map (·.1)).Nodup
def DictTO (P : Program) (w : World) (a : Addr) (L : List (Addr × List Int)) : HO := .ext fun h => DictT0 P w h a L
theorem dictTO_new {P : Program} {w : World} {H : Hp} {h : Heap} {a : Addr} {L : List (Addr × List Int)} (R : DictT0 P w h a L) : ObjOk P w H h a (DictTO P w a L) := by
  have ⟨lo, xs, e, o, es, ep, ho, r⟩ := R
  exact ⟨R, ⟨o, ho⟩, fun h1 h2 ⟨lo', xs', e', o', es', ep', ho', r'⟩ k => ⟨lo', xs', e', o', es', ep', k o' ho', r'⟩⟩
theorem dictTO_empty {P : Program} {w : World} {H : Hp} (h : Heap) (hb : sysModules < h.objs.size) : ObjOk P w H (h.push { cls := .type "dict", data := .dict #[] }) h.objs.size (DictTO P w h.objs.size []) :=
  dictTO_new ⟨beq_eq_false_iff_ne.mpr (Ne.symm (Nat.ne_of_lt hb)), [], rfl, _, #[], 0, Heap.get?_push_size _ rfl, ⟨rfl, rfl, rfl⟩, rfl, rfl, List.nodup_nil⟩
theorem DictT0.full {P : Program} {w : World} {h : Heap} {a : Addr} {L : List (Addr × List Int)} (R : DictT0 P w h a L) (ht : ∀ p ∈ L, IsT P w h p.2 p.1) : ∃ xs : List (List Int × Addr × Value), L = xs.map (fun x => (x.2.1, x.1)) ∧ h.DictOfH (tupleKind (intKind P w)) a xs := by
  obtain ⟨lo, xs, rfl, o, es, ep, ho, hx, hd, he, hn⟩ := R
  exact ⟨xs, rfl, o, es, ep, ho, hx, hd, he, fun x m => ht _ (List.mem_map.mpr ⟨x, m, rfl⟩), hn⟩
/-- a key is put: where it stands already, its first tuple stays -/
def putT (L : List (Addr × List Int)) (b : Addr) (k : List Int) : List (Addr × List Int) := if k ∈ L.map (·.2) then L else L ++ [(b, k)]
theorem putT_stored (xs : List (List Int × Addr × Value)) (k : List Int) (b : Addr) (v : Value) : (storedH xs k b v).map (fun x => (x.2.1, x.1)) = putT (xs.map (fun x => (x.2.1, x.1))) b k := by
  have em : (xs.map (fun x => (x.2.1, x.1))).map (·.2) = xs.map (·.1) := by rw [List.map_map]; rfl
  unfold putT
  rw [em]
  cases q : atKey xs k with
  | none =>
    have hk : k ∉ xs.map (·.1) := by
      intro m
      have z := any_pairsH xs k
      rw [q] at z
      obtain ⟨x, hx, e⟩ := List.mem_map.mp m
      have y : ((pairsH xs).any fun kv => decide (kv.1 = k)) = true := List.any_eq_true.mpr ⟨(x.1, x.2.2), List.mem_map.mpr ⟨x, hx, rfl⟩, by simp [e]⟩
      rw [y] at z
      cases z
    rw [storedH_new q, if_neg hk, List.map_append]
    rfl
  | some p =>
    have hk : k ∈ xs.map (·.1) := by
      have z := any_pairsH xs k
      rw [q] at z
      obtain ⟨y, hy, e⟩ := List.any_eq_true.mp z
      obtain ⟨x, hx, rfl⟩ := List.mem_map.mp hy
      exact List.mem_map.mpr ⟨x, hx, of_decide_eq_true e⟩
    rw [storedH_old q, if_pos hk, List.map_map]
    refine List.map_congr_left fun x _ => ?_
    by_cases h : x.1 = k <;> simp [putAt, h]
def PtT (P : Program) (w : World) (K : PySem.W.Frag) : Addr → Hp → V → V → Hp → Prop := fun D H y _ H' => ∃ L b k, y = .ref b ∧ H D = some (DictTO P w D L) ∧ L.length < sizeLine ∧ (∀ p ∈ L, SqT K H p.1 (p.2.map V.int)) ∧ SqT K H b (k.map V.int) ∧ H' = upd H D (DictTO P w D (putT L b k))
theorem putOk_T {X : Cx} (hu : X.A.units < cLine) : PutOk X (PtT X.prog X.w X.K) := by
  rintro pins σ H s D y z H' u r Z Q I ⟨L, b, k, rfl, hD, hz, ht, hb, rfl⟩ ry _ h
  cases (show u = Value.ref b from ry)
  have R : DictT0 X.prog X.w s.heap D L := (I.hok D _ hD).1
  obtain ⟨xs, rfl, dd⟩ := R.full fun p hp => I.isT (ht p hp)
  refine wpAny_dictSet_heap (knd := tupleKind (intKind X.prog X.w)) hu (I.isT hb) dd (fun h' dd' hs => h _ ?_) (by rw [List.length_map] at hz; omega)
  obtain ⟨o, es, ep, ho, hx, hd, he, _, hn⟩ := dd'
  refine d_write I (by rw [hD]; exact True.intro) hs ⟨o, ho⟩ (dictTO_new ⟨R.lo, storedH xs k b r, (putT_stored xs k b r).symm, o, es, ep, ho, hx, hd, he, hn⟩)
theorem perm_map {α β : Type} (f : α → β) {l m : List β} (h : l.Perm m) : ∀ L : List α, m = L.map f → ∃ L' : List α, L'.Perm L ∧ l = L'.map f := by
  induction h with
  | nil => exact fun L e => ⟨L, .refl _, e⟩
  | cons x h ih =>
    intro L e
    cases L with
    | nil => cases e
    | cons a L =>
      injection e with e1 e2
      obtain ⟨L', p, q⟩ := ih L e2
      exact ⟨a :: L', p.cons a, by rw [List.map_cons, e1, q]⟩
  | swap x y l =>
    intro L e
    match L, e with
    | a :: b :: L, e =>
      injection e with e1 e2
      injection e2 with e2 e3
      exact ⟨b :: a :: L, .swap _ _ _, by rw [List.map_cons, List.map_cons, e1, e2, e3]⟩
  | trans h1 h2 ih1 ih2 =>
    intro L e
    obtain ⟨L1, p1, q1⟩ := ih2 L e
    obtain ⟨L2, p2, q2⟩ := ih1 L1 q1
    exact ⟨L2, p2.trans p1, q2⟩
/-- sorted(d): fewer than 64 keys of k ints in [0, B) -/
def rSortD (K : PySem.W.Frag) (P : Program) (w : World) (B : Int) : List V → Hp → VK → Prop := fun vs H Q => ∃ (a : Addr) (L : List (Addr × List Int)) (d : Nat), vs = [V.ref a] ∧ H a = some (DictTO P w a L) ∧ (∀ p ∈ L, SqT K H p.1 (p.2.map V.int)) ∧ 1 ≤ d ∧ L.length < 64 ∧ (∀ p ∈ L, p.2.length = d ∧ TS.Bd B p.2) ∧
  ∀ (M : List (Addr × List Int)) (p : Addr), M.Perm L → M.Pairwise (fun q r => TS.code B q.2 ≤ TS.code B r.2) → H p = none → Q (.ref p) (upd H p (.lst (M.map fun q => V.ref q.1)))
theorem cr_sortD {X : Cx} {B : Int} (hc : X.calm = true) : CallR X (.builtin "sorted") (rSortD X.K X.prog X.w B) := by
  rintro pins s σ H vs us Q I r ⟨a, L, d, rfl, ha, ht, hd1, h64, hB, q⟩
  have R : DictT0 X.prog X.w s.heap a L := (I.hok a _ ha).1
  have tt : ∀ p ∈ L, IsT X.prog X.w s.heap p.2 p.1 := fun p hp => I.isT (ht p hp)
  obtain ⟨lo, xs, rfl, o, es, ep, ho, hx, hdt, he, hn⟩ := R
  obtain ⟨u, rfl, ru⟩ := vals1 r
  cases ru
  have l1 : es.size = xs.length := size_of_entries he
  rw [List.length_map] at h64
  refine Calls.call_function_entry PyProof.Rows.kind_sorted PyProof.Rows.plain_sorted PyProof.Rows.entry_sorted (PyProof.Rows.args_sorted1 _) ?_
  unfold Builtin.«sorted»
  refine wpAny_bind (m := checkCount "sorted" 1 1 _) (wpAny_pure ?_)
  refine wpAny_bind (PySem.W.kdu_collect (A := X.A.in1) (kdl_raw lo hx hdt) (I.ok.hd hc) ho (by rw [sizeLine_eq]; omega) fun h' tk acc kp it => ?_)
  have ea : acc.toList = (xs.map (fun x => (x.2.1, x.1))).map fun p => Value.ref p.1 := by
    have hl : acc.toList.length = xs.length := by rw [Array.length_toList, it.1]; exact l1
    apply List.ext_getElem?
    intro j
    rw [List.map_map, List.getElem?_map]
    cases hj : acc.toList[j]? with
    | none => rw [List.getElem?_eq_none (by have := List.getElem?_eq_none_iff.mp hj; omega)]; rfl
    | some v =>
      obtain ⟨en, hen, hv⟩ := it.2 j v (by rw [← Array.getElem?_toList]; exact hj)
      have qe := entry_at he j
      rw [hen] at qe
      cases hb : xs[j]? with
      | none => rw [hb] at qe; exact nomatch (show some en = none from qe)
      | some b =>
        rw [hb] at qe
        rw [hv, show en = entryOfKey (tupleKind (intKind X.prog X.w)) b from Option.some.inj qe]
        rfl
  have hal : acc.toList.length = xs.length := by rw [ea, List.length_map, List.length_map]
  have J1 : Inv X pins σ H { s with heap := h', toks := tk } := I.kept kp
  refine wpAny_bind (wpAny_newList ?_ (by rw [hal, sizeLine_eq]; omega))
  have hoL : (h'.push (seqObj "list" acc.toList.toArray 0)).get? h'.objs.size = some (seqObj "list" acc.toList.toArray 0) := Heap.get?_push_size _ rfl
  have tk1 : ∀ q ∈ xs.map (fun x => (x.2.1, x.1)), TS.TupInts (h'.push (seqObj "list" acc.toList.toArray 0)) (.ref q.1) q.2 := fun q hq => tupInts_of (P := X.prog) (w := X.w) (isT_keep (tt q hq) fun b u e => Heap.get?_push_of_some _ (kp b u e))
  have tok : TS.TupsOk (h'.push (seqObj "list" acc.toList.toArray 0)) d B acc.toList := fun v hv => by
    rw [ea] at hv
    obtain ⟨q, hq, rfl⟩ := List.mem_map.mp hv
    exact ⟨q.2, tk1 q hq, (hB q hq).1, (hB q hq).2⟩
  show wpAny _ _ _ _ _ { s with heap := h'.push (seqObj "list" acc.toList.toArray 0), toks := tk }
  refine wpAny_bind (wpAny_holding (TS.call_sort_tups (s := { s with heap := h'.push (seqObj "list" acc.toList.toArray 0), toks := tk }) hoL (by rw [hal]; exact h64) hd1 tok fun out g1 g2 => ?_))
  obtain ⟨M, pm, eM⟩ := perm_map (fun p : Addr × List Int => Value.ref p.1) g1 (xs.map (fun x => (x.2.1, x.1))) ea
  have pw : M.Pairwise (fun q r => TS.code B q.2 ≤ TS.code B r.2) := by
    rw [eM] at g2
    refine List.Pairwise.imp_of_mem (fun {q r} hq hr hle => ?_) (List.pairwise_map.mp g2)
    rw [← (tk1 q (pm.mem_iff.mp hq)).ints, ← (tk1 r (pm.mem_iff.mp hr)).ints]
    exact hle
  obtain ⟨c, hc'⟩ := PyProof.Rows.sortedHeap_at (vs := acc.toList) (out := out) hoL
  have hlen : (M.map fun q => V.ref q.1).length ≤ sizeLine := by
    rw [List.length_map, pm.length_eq, List.length_map, sizeLine_eq]
    omega
  refine wpAny_pure ⟨_, rfl, .ref h'.objs.size, upd H h'.objs.size (.lst (M.map fun q => V.ref q.1)), J1.laid (t' := tk) (fun b u e => ?_) (Nat.le_refl _)
    (show ObjOk X.prog X.w _ _ _ (.lst (M.map fun q => V.ref q.1)) from ⟨hlen, out.toList, c, by rw [eM]; exact vals_of_refs M, by rw [Array.toArray_toList]; exact hc'⟩), rfl, q M _ pm pw (J1.hok.fresh (Nat.le_refl _))⟩
  have hb : b < h'.objs.size := Heap.lt_size e
  rw [PyProof.Rows.sortedHeap_old (Nat.ne_of_lt hb) (by rw [size_push']; exact Nat.lt_succ_of_lt hb)]
  exact Heap.get?_push_of_some _ e
end Mir
set_option maxHeartbeats 4000000
namespace Mir
open PySem PySem.Spec PyProof.Rows L2
def toRow : PV → Option (List Int)
  | .tup xs => xs.mapM toI
  | _ => none
def addR (L : List (List Int)) (k : List Int) : List (List Int) := if k ∈ L then L else L ++ [k]
/-- each row where it comes first -/
def dedupR (L : List (List Int)) : List (List Int) := L.foldl addR []
def insR (B : Int) (r : List Int) : List (List Int) → List (List Int)
  | [] => [r]
  | q :: l => if TS.code B r ≤ TS.code B q then r :: q :: l else q :: insR B r l
def sortR (B : Int) : List (List Int) → List (List Int)
  | [] => []
  | r :: l => insR B r (sortR B l)
/-- fewer than 64 rows, all of as many ints in [0, B) -/
def rowsB (B : Int) (L : List (List Int)) : Bool := decide (L.length < 64) && match L with
  | [] => true
  | r :: _ => decide (1 ≤ r.length) && L.all fun q => decide (q.length = r.length) && q.all fun x => decide (0 ≤ x) && decide (x < B)
def rowV (r : List Int) : PV := .tup (r.map PV.int)
theorem insR_perm {B r} : ∀ L, (insR B r L).Perm (r :: L)
  | [] => .refl _
  | q :: l => by
    unfold insR
    split
    · exact .refl _
    · exact ((insR_perm l).cons q).trans (.swap _ _ _)
theorem sortR_perm {B} : ∀ L, (sortR B L).Perm L
  | [] => .refl _
  | r :: l => (insR_perm _).trans ((sortR_perm l).cons r)
theorem insR_sorted {B r} : ∀ {L : List (List Int)}, L.Pairwise (fun q p => TS.code B q ≤ TS.code B p) → (insR B r L).Pairwise (fun q p => TS.code B q ≤ TS.code B p)
  | [], _ => by simp [insR]
  | q :: l, h => by
    unfold insR
    rw [List.pairwise_cons] at h
    split
    · rename_i le
      refine List.pairwise_cons.mpr ⟨fun p hp => ?_, List.pairwise_cons.mpr h⟩
      rcases List.mem_cons.mp hp with rfl | hp
      · exact le
      · exact Int.le_trans le (h.1 p hp)
    · rename_i nle
      refine List.pairwise_cons.mpr ⟨fun p hp => ?_, insR_sorted h.2⟩
      rcases List.mem_cons.mp ((insR_perm l).mem_iff.mp hp) with rfl | hp
      · omega
      · exact h.1 p hp
theorem sortR_sorted {B} : ∀ L, (sortR B L).Pairwise (fun q p => TS.code B q ≤ TS.code B p)
  | [] => List.Pairwise.nil
  | r :: l => insR_sorted (sortR_sorted l)
theorem code_inj {B : Int} : ∀ {r q : List Int}, r.length = q.length → TS.Bd B r → TS.Bd B q → TS.code B r = TS.code B q → r = q
  | [], [], _, _, _, _ => rfl
  | [], _ :: _, h, _, _, _ => by simp at h
  | _ :: _, [], h, _, _, _ => by simp at h
  | d :: r, e :: q, hl, hr, hq, h => by
    have hz : r.length = q.length := by simpa using hl
    rcases Int.lt_trichotomy d e with c | c | c
    · have := TS.code_lt hz hr.tail hq.tail c; omega
    · subst c
      have h1 := TS.code_same (B := B) (d := d) hz
      have h2 := TS.code_same (B := B) (d := d) hz.symm
      have : TS.code B r = TS.code B q := by
        rcases Int.lt_trichotomy (TS.code B r) (TS.code B q) with k | k | k
        · have := h1.mpr k; omega
        · exact k
        · have := h2.mpr k; omega
      rw [code_inj hz hr.tail hq.tail this]
    · have := TS.code_lt hz.symm hq.tail hr.tail c; omega
theorem rowsB_ok {B L} (h : rowsB B L = true) : L.length < 64 ∧ ∃ d, 1 ≤ d ∧ ∀ r ∈ L, r.length = d ∧ TS.Bd B r := by
  unfold rowsB at h
  simp only [Bool.and_eq_true, decide_eq_true_eq] at h
  refine ⟨h.1, ?_⟩
  cases L with
  | nil => exact ⟨1, Nat.le_refl _, fun _ m => nomatch m⟩
  | cons r l =>
    have h2 := h.2
    simp only [Bool.and_eq_true, decide_eq_true_eq] at h2
    refine ⟨r.length, h2.1, fun q hq => ?_⟩
    have := List.all_eq_true.mp h2.2 q hq
    simp only [Bool.and_eq_true, decide_eq_true_eq, List.all_eq_true] at this
    exact ⟨this.1, fun m hm => this.2 m hm⟩
theorem dedupR_sub : ∀ (L : List (List Int)) (A : List (List Int)), (∀ r ∈ L.foldl addR A, r ∈ A ∨ r ∈ L) ∧ (L.foldl addR A).length ≤ A.length + L.length
  | [], A => ⟨fun r h => .inl h, Nat.le_refl _⟩
  | k :: L, A => by
    obtain ⟨h1, h2⟩ := dedupR_sub L (addR A k)
    refine ⟨fun r h => ?_, ?_⟩
    · rcases h1 r h with z | z
      · unfold addR at z
        split at z
        · exact .inl z
        · rcases List.mem_append.mp z with y | y
          · exact .inl y
          · exact .inr (by rw [List.mem_singleton.mp y]; exact List.mem_cons_self)
      · exact .inr (List.mem_cons_of_mem _ z)
    · refine Nat.le_trans h2 ?_
      unfold addR
      split
      · simp
      · simp; omega
theorem dedupR_snoc (L : List (List Int)) (k : List Int) : dedupR (L ++ [k]) = addR (dedupR L) k := by
  unfold dedupR
  rw [List.foldl_append]
  rfl
/-- rows that stand strictly ascending are left as they are -/
theorem dedupR_id {B : Int} {L : List (List Int)} (h : L.Pairwise (fun q r => TS.code B q < TS.code B r)) : dedupR L = L := by
  have key : ∀ (L A : List (List Int)), L.Pairwise (fun q r => TS.code B q < TS.code B r) → (∀ a ∈ A, ∀ r ∈ L, TS.code B a < TS.code B r) → L.foldl addR A = A ++ L := by
    intro L
    induction L with
    | nil => intro A _ _; simp
    | cons k L ih =>
      intro A hp ha
      rw [List.pairwise_cons] at hp
      have nk : k ∉ A := fun m => Int.lt_irrefl _ (ha k m k List.mem_cons_self)
      show L.foldl addR (addR A k) = _
      have e : addR A k = A ++ [k] := by unfold addR; rw [if_neg nk]
      rw [e, ih (A ++ [k]) hp.2 fun a m r hr => ?_]
      · simp
      · rcases List.mem_append.mp m with z | z
        · exact ha a z r (List.mem_cons_of_mem _ hr)
        · rw [List.mem_singleton.mp z]; exact hp.1 r hr
  unfold dedupR
  rw [key L [] h (fun _ m => nomatch m)]
  rfl
theorem sortR_id {B : Int} : ∀ {L : List (List Int)}, L.Pairwise (fun q r => TS.code B q < TS.code B r) → sortR B L = L
  | [], _ => rfl
  | r :: l, h => by
    rw [List.pairwise_cons] at h
    unfold sortR
    rw [sortR_id h.2]
    cases l with
    | nil => rfl
    | cons q l =>
      unfold insR
      rw [if_pos (Int.le_of_lt (h.1 q List.mem_cons_self))]
def mKey (fk fv : Rho → Store → Res PV) : Rho → Store → Res PV := fun ρ S => (fk ρ S).bind fun y S1 => (fv ρ S1).bind fun _ S2 => match toRow y with
  | some _ => .ok y S2
  | none => .bad
def sortV (B : Int) (ys : List PV) (S : Store) : Res SO := match ys.mapM toRow with
  | some L => if rowsB B L = true then .ok (.lst ((sortR B (dedupR L)).map rowV)) S else .bad
  | none => .bad
def mSortD (B : Int) (it : Rho → Store → Res (List PV)) (g : PV → Rho → Store → Res Rho) (t : Rho → Store → Res Bool) (fk fv : Rho → Store → Res PV) (vs : List Nat) : Rho → Store → Res SO := fun ρ S =>
  (it ρ S).bind fun xs S1 => if xs.length ≤ sizeM then (mLcGo g t (mKey fk fv) (mWipe ρ vs) xs S1).bind (sortV B) else .bad
theorem mapM_snoc {α β : Type} {f : α → Option β} {y : α} {b : β} (hy : f y = some b) : ∀ {xs : List α} {bs : List β}, xs.mapM f = some bs → (xs ++ [y]).mapM f = some (bs ++ [b])
  | xs, bs, h => by
    rw [List.mapM_append, h]
    simp [hy]
/-- what the dict holds behind these keys -/
structure DkOk (K : PySem.W.Frag) (w : Wd) (pacc : List PV) (L : List (Addr × List Int)) : Prop where
  ks : ∃ ks, pacc.mapM toRow = some ks ∧ L.map (·.2) = dedupR ks
  rv : ∀ p ∈ L, SqT K w.hc p.1 (p.2.map V.int)
theorem DkOk.mono {K : PySem.W.Frag} {w w' : Wd} {pacc L} (h : DkOk K w pacc L) (e : ∀ a o, w.hc a = some o → w'.hc a = some o) : DkOk K w' pacc L := ⟨h.ks, fun p hp => sqT_mono e (h.rv p hp)⟩
theorem DkOk.put {K : PySem.W.Frag} {w : Wd} {pacc L} {y : PV} {b : Addr} {k : List Int} (h : DkOk K w pacc L) (e : toRow y = some k) (r : SqT K w.hc b (k.map V.int)) : DkOk K w (pacc ++ [y]) (putT L b k) := by
  obtain ⟨ks, e1, e2⟩ := h.ks
  refine ⟨⟨ks ++ [k], mapM_snoc e e1, ?_⟩, fun p hp => ?_⟩
  · rw [dedupR_snoc, ← e2]
    unfold putT addR
    split <;> simp
  · unfold putT at hp
    split at hp
    · exact h.rv p hp
    · rcases List.mem_append.mp hp with z | z
      · exact h.rv p z
      · rw [List.mem_singleton.mp z]; exact r
theorem rvs_rows {K : PySem.W.Frag} {Lc : List Addr} {Hc : Hp} : ∀ {M : List (Addr × List Int)}, (∀ p ∈ M, SqT K Hc p.1 (p.2.map V.int)) → RVs K Lc Hc ((M.map (·.2)).map rowV) (M.map fun q => V.ref q.1)
  | [], _ => rfl
  | p :: M, h => by
    refine ⟨.ref p.1, _, rfl, ⟨p.1, p.2.map V.int, rfl, h p List.mem_cons_self, ?_⟩, rvs_rows fun q hq => h q (List.mem_cons_of_mem _ hq)⟩
    have all : ∀ ns : List Int, RVs K Lc Hc (ns.map PV.int) (ns.map V.int) := fun ns => by
      induction ns with
      | nil => exact rfl
      | cons n ns ih => exact ⟨.int n, _, rfl, rfl, ih⟩
    exact all p.2
theorem toRow_rv {K : PySem.W.Frag} {Lc : List Addr} {Hc : Hp} {y : PV} {k : List Int} {u : V} (e : toRow y = some k) (r : RV K Lc Hc y u) : ∃ b, u = .ref b ∧ SqT K Hc b (k.map V.int) := by
  cases y <;> first | cases e | skip
  rename_i xs
  obtain ⟨a, vs, rfl, r1, r2⟩ := r
  have := toIs_rv (K := K) e r2
  rw [this] at r1
  exact ⟨a, rfl, r1⟩
theorem sim_sortD {P : Program} {w0 : World} {K : PySem.W.Frag} {mg : Str → Option Value} {G : Wd} {E : EK} {B : Int} {wi g tt tk tv vs fi fg ft fk fv} (hi : ISim K mg G E wi fi) (hg : GtSim K mg G g fg vs) (ht : TSim K mg G (fun _ => E0) tt ft) (hk : ESim K mg G (fun _ => E0) tk fk) (hv : ESim K mg G (fun _ => E0) tv fv) :
    NSim K mg G E (tCB (rSortD K P w0 B) (tCons (tDcG (fun D => DictTO P w0 D []) (PtT P w0 K) wi g tt tk tv vs) tNil)) (mSortD B fi fg ft fk fv vs) := fun w ρ σ Q I q => by
  refine hi w ρ σ _ I (Good.imp (Good.bind1 q) (fun xs S1 h1 => ?_) fun _ _ _ h => h)
  intro w1 J e1 s1 k1 it D hD
  subst e1
  obtain ⟨hsz, h1⟩ := good_if h1
  have k2 := laid_ok (o := DictTO P w0 D []) k1 hD
  have s2 := laid_step (o := DictTO P w0 D []) k1 hD
  have hDL : D ∉ w1.L := k1.ninL hD
  have hDw : w.H D = none := by
    cases e : w.H D with
    | none => rfl
    | some o =>
      by_cases z : D ∈ w.L
      · exact absurd (s1.pre.subset z) hDL
      · rw [s1.keep D o e z] at hD; cases hD
  have hGD : G.H D = none := by
    cases e : G.H D with
    | none => rfl
    | some o =>
      by_cases z : D ∈ G.L
      · exact absurd ((I.stp.pre.trans s1.pre).subset z) hDL
      · rw [I.stp.keep D o e z] at hDw; cases hDw
  have I1 := I.step s1 k1
  refine ⟨fun i m H => ∃ w2 pacc L, w2.H = H ∧ WStep w w2 ∧ WOk K w2 ∧ VStep w1 w2 ∧ D ∈ w2.O ∧ D ∉ w2.L ∧ w2.H D = some (DictTO P w0 D L) ∧ DkOk K w2 pacc L ∧ L.length ≤ i ∧ m + i = xs.length ∧ FI K G w2 (mWipe ρ vs) (L2.wipe σ vs) ∧
    Good (mLcGo fg ft (mKey fk fv) (mWipe ρ vs) (xs.drop i) w2.S) (fun ys S' => Good (sortV B (pacc ++ ys) S') (PostN K w Q) (ExP K mg (E σ) w)) (ExP K mg (E σ) w),
    ⟨xs.length, w1.laid D (DictTO P w0 D []), [], [], rfl, s1.tr s2 I.ok k1, k2, s2.v k1.sub, List.mem_cons_self, hDL, by show upd w1.H D _ D = _; rw [upd_same], ⟨⟨[], rfl, rfl⟩, fun _ m => nomatch m⟩, Nat.le_refl _, rfl, (I1.step s2 k2).wipe vs, Good.bind1 h1⟩, ?_⟩
  rintro i m H2 ⟨w2, pacc, L, rfl, s2', k2', v2, hO, hL, hD2, dk, hlen, em, I2, h2⟩
  by_cases hx : i < xs.length
  · have ed : xs.drop i = xs[i] :: xs.drop (i + 1) := (List.getElem_cons_drop hx).symm
    rw [ed] at h2
    obtain ⟨go, yl⟩ := (it i w2 v2 k2').1 xs[i] (List.getElem?_eq_getElem hx)
    refine .inr ⟨go, fun H' => ∃ w3 pacc L, w3.H = H' ∧ WStep w w3 ∧ WOk K w3 ∧ VStep w1 w3 ∧ D ∈ w3.O ∧ D ∉ w3.L ∧ w3.H D = some (DictTO P w0 D L) ∧ DkOk K w3 pacc L ∧ L.length ≤ i + 1 ∧ FI K G w3 (mWipe ρ vs) (L2.wipe σ vs) ∧
      Good (mLcGo fg ft (mKey fk fv) (mWipe ρ vs) (xs.drop (i + 1)) w3.S) (fun ys S' => Good (sortV B (pacc ++ ys) S') (PostN K w Q) (ExP K mg (E σ) w)) (ExP K mg (E σ) w), ?_, fun v H' hy => ?_⟩
    · rintro H' ⟨w3, p3, a3, c1, c2, c3, c4, c5, c6, c7, c8, c9, c10, c11⟩
      exact ⟨m - 1, by omega, w3, p3, a3, c1, c2, c3, c4, c5, c6, c7, c8, c9, by omega, c10, c11⟩
    · obtain ⟨w3, rfl, es, s3, k3, r3⟩ := yl v H' hy
      rw [← es] at h2
      have I3 := I2.step s3 k3
      have h3 := Good.nox (ex' := fun _ _ _ => False) (Good.bind1 h2)
      refine hg w3 _ _ xs[i] v _ I3 r3 (Good.imp h3 (fun ρ4 S4 h4 => ?_) fun _ _ _ h => h)
      intro σ4 e4 l4 f4 I4
      subst e4
      have wp := wipe_wipe σ σ4 vs (by rw [l4, wipe_length]) f4
      refine ⟨wp.1.trans wp.2, ?_⟩
      have h4' := Good.nox (ex' := ExP K mg E0 w3) (Good.bind1 h4)
      refine ht w3 ρ4 σ4 _ I4 (Good.imp h4' (fun b S5 h5 => ?_) fun _ _ _ h => h)
      intro w5 e5 s5 k5
      subst e5
      have s25 := s3.tr s5 k2' k3
      have hD5 : w5.H D = some (DictTO P w0 D L) := s25.keep D _ hD2 hL
      have hL5 : D ∉ w5.L := fun z => by
        rcases s25.lset D z with y | y
        · exact hL y
        · rw [hD2] at y; cases y
      cases b with
      | false =>
        rw [if_neg Bool.false_ne_true] at h5 ⊢
        exact ⟨w5, pacc, L, rfl, s2'.tr s25 I.ok k2', k5, v2.trans (s25.v k2'.sub), s25.omono D hO, hL5, hD5, dk.mono (s25.ext k2'.sub), by omega, I2.step s25 k5, h5⟩
      | true =>
        rw [if_pos rfl] at h5 ⊢
        have h5' := Good.bind1 (Good.nox (ex' := ExP K mg E0 w5) (Good.bind1 h5))
        refine hk w5 ρ4 σ4 _ (I4.step s5 k5) (Good.imp h5' (fun y S6 h6 => ?_) fun _ _ _ h => h)
        intro w6 u e6 s6 k6 r6
        subst e6
        have s26 := s25.tr s6 k2' k5
        refine hv w6 ρ4 σ4 _ ((I4.step s5 k5).step s6 k6) (Good.imp (Good.bind1 h6) (fun y2 S7 h7 => ?_) fun _ _ _ h => h.step s6 k5 k6)
        intro w7 u2 e7 s7 k7 r7
        subst e7
        have s27 := s26.tr s7 k2' k6
        have s67 := s6.tr s7 k5 k6
        have hD7 : w7.H D = some (DictTO P w0 D L) := s27.keep D _ hD2 hL
        have hL7 : D ∉ w7.L := fun z => by
          rcases s27.lset D z with y | y
          · exact hL y
          · rw [hD2] at y; cases y
        have hO7 := s27.omono D hO
        cases ek : toRow y with
        | none => rw [ek] at h7; exact h7.elim
        | some k =>
          rw [ek] at h7
          obtain ⟨b, rfl, rb⟩ := toRow_rv ek (r6.mono s7.pre (s7.ext k6.sub))
          have v8 : VStep w7 (w7.wr D (DictTO P w0 D (putT L b k))) := wr_v hO7
          have k8 := wr_ok (ho := DictTO P w0 D (putT L b k)) k7 hO7 hL7
          have I7 := I2.step s27 k7
          have dk7 := dk.mono (w' := w7) (s27.ext k2'.sub)
          have up : (putT L b k).length ≤ i + 1 := by
            unfold putT
            split
            · omega
            · rw [List.length_append, List.length_singleton]; omega
          refine ⟨_, ⟨L, b, k, rfl, hD7, Nat.lt_of_le_of_lt hlen (Nat.lt_of_lt_of_le hx (sizeM_le hsz)), fun p hp => hc_sqT (dk7.rv p hp), hc_sqT rb, rfl⟩, w7.wr D (DictTO P w0 D (putT L b k)), pacc ++ [y], putT L b k, rfl, wr_step (s2'.tr s27 I.ok k2') hDw, k8, (v2.trans (s27.v k2'.sub)).trans v8, hO7, hL7, by show upd w7.H D _ D = _; rw [upd_same], ?_, up, ?_, ?_⟩
          · exact (dk7.put ek rb).mono v8.ext
          · refine ⟨I7.gok, k8, wr_step I7.stp hGD, I7.len, fun j x e => ?_, fun j o e => ?_, I7.dis, fun j c fs e => ?_⟩
            · rw [wr_hc hO7]; exact I7.val j x e
            · rw [wr_hc hO7]
              obtain ⟨p, a, b, c, d, r⟩ := I7.own j o e
              have np : p ≠ D := fun z => by
                obtain ⟨p', a', b', _⟩ := (I1.wipe vs).own j o e
                rw [a'] at a
                cases a
                rw [z] at b'
                exact k1.nin hD b'
              exact ⟨p, a, b, c, d, by show SOk K w7.L w7.hc (upd w7.H D _ p) o; rw [upd_ne np]; exact r⟩
            · rw [wr_hc hO7]; exact I7.pin j c fs e
          · have h7 : Good ((mLcGo fg ft (mKey fk fv) (mWipe ρ vs) (xs.drop (i + 1)) w7.S).bind fun ys S4 => .ok (y :: ys) S4) (fun ys S' => Good (sortV B (pacc ++ ys) S') (PostN K w Q) (ExP K mg (E σ) w)) (ExP K mg (E σ) w) := h7
            refine Good.imp (Good.bind1 h7) (fun ys S8 h8 => ?_) fun _ _ _ h => h
            rw [List.append_assoc]
            exact h8
  · refine .inl ⟨(it i w2 v2 k2').2 (by omega), ?_⟩
    rw [List.drop_eq_nil_of_le (by omega)] at h2
    have h2 : Good (sortV B (pacc ++ []) w2.S) (PostN K w Q) (ExP K mg (E σ) w) := h2
    rw [List.append_nil] at h2
    obtain ⟨ks, e1, e2⟩ := dk.ks
    unfold sortV at h2
    rw [e1] at h2
    obtain ⟨hb, h2⟩ := good_if h2
    obtain ⟨b1, d, b2, b3⟩ := rowsB_ok hb
    have sub := dedupR_sub ks []
    have b4 : ∀ p ∈ L, p.2.length = d ∧ TS.Bd B p.2 := fun p hp => by
      refine b3 _ ?_
      have m : p.2 ∈ L.map (·.2) := List.mem_map.mpr ⟨p, hp, rfl⟩
      rw [e2] at m
      exact (sub.1 _ m).resolve_left fun z => nomatch z
    have hll : L.length < 64 := by
      have h := congrArg List.length e2
      rw [List.length_map] at h
      have := sub.2
      simp only [List.length_nil, Nat.zero_add] at this
      show L.length < 64
      rw [h]
      exact Nat.lt_of_le_of_lt this b1
    refine ⟨D, L, d, rfl, hD2, fun p hp => hc_sqT (dk.rv p hp), b2, hll, b4, fun M p pm pw hp => ?_⟩
    have eM : M.map (·.2) = sortR B (dedupR ks) := by
      have p1 : (M.map (·.2)).Perm (dedupR ks) := by rw [← e2]; exact pm.map _
      refine List.Perm.eq_of_pairwise (le := fun q r => TS.code B q ≤ TS.code B r) (fun a b ha hb' h3 h4 => ?_) (List.pairwise_map.mpr pw) (sortR_sorted _) (p1.trans (sortR_perm _).symm)
      have ma := sub.1 a (p1.mem_iff.mp ha) |>.resolve_left fun z => nomatch z
      have mb := sub.1 b ((sortR_perm _).mem_iff.mp hb') |>.resolve_left fun z => nomatch z
      exact code_inj ((b3 a ma).1.trans (b3 b mb).1.symm) (b3 a ma).2 (b3 b mb).2 (Int.le_antisymm h3 h4)
    rw [← eM] at h2
    have hpL : p ∉ w2.L := k2'.ninL hp
    have hpw : w.H p = none := by
      cases e : w.H p with
      | none => rfl
      | some o =>
        by_cases z : p ∈ w.L
        · exact absurd (s2'.pre.subset z) hpL
        · rw [s2'.keep p o e z] at hp; cases hp
    refine h2 (w2.laid p (.lst (M.map fun q => V.ref q.1))) p rfl (s2'.tr (laid_step k2' hp) I.ok k2') (laid_ok k2' hp) hpw List.mem_cons_self hpL ⟨_, by show upd w2.H p _ p = _; rw [upd_same], ?_⟩
    exact RVs.mono (List.prefix_refl _) (laid_ext hp) (rvs_rows fun q hq => dk.rv q (pm.mem_iff.mp hq))
/-- sorted({k: v for ..}) -/
theorem fn_sortD {X : Cx} {G : Wd} {E : EK} {B : Int} {kx vx tg iter : Expr} {ifs : List Expr} {scope : Scope} {p pos dpos : Pos} {wi g tt tk tv fi fg ft fk fv} (own : List (Str × Nat)) (hc : X.calm = true) (hN : X.N.Nodup) (hu : X.A.units < cLine) (hm : X.mg "sorted" = none) (ok : BlkOk X.N X.env.scope scope own) (hi : FIt X G E tg iter wi fi)
    (hg : ∀ (s : Shared) (H : Hp) (C : Addr) (cl : List (Str × Addr)) (fp : List Addr), FGt (X.blk s H scope (compEnvC scope cl C X.env) fp) G tg g fg (own.map (·.2)))
    (ht : ∀ (s : Shared) (H : Hp) (C : Addr) (cl : List (Str × Addr)) (fp : List Addr), FTs (X.blk s H scope (compEnvC scope cl C X.env) fp) G (fun _ => E0) ifs tt ft)
    (hk : ∀ (s : Shared) (H : Hp) (C : Addr) (cl : List (Str × Addr)) (fp : List Addr), FE (X.blk s H scope (compEnvC scope cl C X.env) fp) G (fun _ => E0) kx tk fk)
    (hv : ∀ (s : Shared) (H : Hp) (C : Addr) (cl : List (Str × Addr)) (fp : List Addr), FE (X.blk s H scope (compEnvC scope cl C X.env) fp) G (fun _ => E0) vx tv fv)
    (hs : ∀ x, foldedSetIterable iter X.env x = pure x := by intro _; rfl) (hgl : Gl X "sorted" := by rfl)
    (he : starEach [.DictComp kx vx [⟨tg, iter, ifs, 0⟩] scope dpos] X.env = (false, eval (.DictComp kx vx [⟨tg, iter, ifs, 0⟩] scope dpos) X.env) :: starEach [] X.env := by rfl) (hpl : (backTo pos (starEach [] X.env)).any (·.1) = false := by rfl) :
    FN X G E (.Call (.Name "sorted" p) [.DictComp kx vx [⟨tg, iter, ifs, 0⟩] scope dpos] [] pos) (tCB (rSortD X.K X.prog X.w B) (tCons (tDcG (fun D => DictTO X.prog X.w D []) (PtT X.prog X.w X.K) wi g tt tk tv (own.map (·.2))) tNil)) (mSortD B fi fg ft fk fv (own.map (·.2))) :=
  ⟨pe_callB (cr_sortD hc) hgl hm (by decide +kernel) (pa_cons (pe_dcG hc hN (fun H h hb => dictTO_empty h hb) (fun s H ce fp => putOk_T (X := X.blk s H scope ce fp) hu) hi.pe ok (fun s H C cl fp => (hg s H C cl fp).pe) (fun s H C cl fp => (ht s H C cl fp).pe) (fun s H C cl fp => (hk s H C cl fp).pe) (fun s H C cl fp => (hv s H C cl fp).pe) hs) pa_nil he) (by decide) (by decide) he hpl,
   sim_sortD hi.sim (hg X.s_0 X.H_0 0 [] []).sim (ht X.s_0 X.H_0 0 [] []).sim (hk X.s_0 X.H_0 0 [] []).sim (hv X.s_0 X.H_0 0 [] []).sim⟩
end Mir
set_option maxHeartbeats 4000000
namespace Mir
open PySem PySem.Spec PyProof.Rows L2
section
variable (X : Cx) (G : Wd) (E : EK)
structure FlIn (ns : List Str) (sts : List Stmt) (ts : TS) (fs : List (Rho → Store → Res PV)) : Prop where
  pe : PSs X sts ts
  sim : FlS X.K X.mg G E ns ts fs
structure FIn (ns : List Str) (sts : List Stmt) (ts : TS) (gs : List (Rho → Store → Res Unit)) (fs : List (Rho → Store → Res PV)) : Prop where
  pe : PSs X sts ts
  sim : BdS X.K X.mg G E ns ts gs fs
end
section
variable {X : Cx} {G : Wd} {E : EK}
theorem fl_nil : FlIn X G E [] [] tNext [] := ⟨pss_nil, .nil⟩
theorem fl_cons {f : Str} {o e : Expr} {pos pos' : Pos} {te fe} {ns sts ts fs} (ho : PE X o (tVar 0)) (he : FE X G E e te fe) (hr : FlIn X G E ns sts ts fs) (hs : swapsWith e (some (.Attribute o f pos')) pos.line X.env = pure false := by rfl) :
    FlIn X G E (f :: ns) (.Assign [.Attribute o f pos'] e pos :: sts) (tSeq (sFld X.K (tVar 0) te f) ts) (fe :: fs) := ⟨pss_cons (ps_fld ho he.pe hs) hr.pe, .cons he.sim hr.sim⟩
theorem fin_fl {ns sts ts fs} (h : FlIn X G E ns sts ts fs) : FIn X G E ns sts ts [] fs := ⟨h.pe, .fl h.sim⟩
theorem fin_gd {c : Expr} {b : List Stmt} {pos : Pos} {tc fc tb fb} {ns sts ts gs fs} (hc : FT X G E c tc fc) (hb : FSs X G E b tb fb) (hr : FIn X G E ns sts ts gs fs) :
    FIn X G E ns (.If c b [] pos :: sts) (tSeq (tIfS tc tb tNext) ts) (mGuard fc fb :: gs) fs := ⟨pss_cons (ps_if hc.pe hb.pe pss_nil) hr.pe, .gd (st_guard hc.sim hb.sim) hr.sim⟩
end
theorem ok_ini {P : Program} {w : World} {K : PySem.W.Frag} {mg : Str → Option Value} {base : Heap} {qual c : Str} {st : Stmt} {f : Addr} {fd : FuncData} {N ps : List Str} {ns : List Str} {k : Nat} {gs : List (Rho → Store → Res Unit)} {fs : List (Rho → Store → Res PV)} (n : Nat)
    (F : Fun K "__init__" qual st f fd) (S : FnScope N ps (defScope st)) (T : KCls K mg c f ns)
    (body : ∀ (cdv : Value) (A : Around) (outer : List Env) (s : Shared) (H : Hp) (E : XK), A.guards = some [] → Room k (A.deeper (envOfC qual (defScope st) s.heap.objs.size f cdv)) →
      ∃ ts, ∀ G, FIn (cxOf (L2.CX P w) P w K mg base N qual (defScope st) f cdv A outer s H E) G (fun _ => E) ns (defBody st) ts gs fs)
    (hps : ps.length = n + 1 := by rfl) (hN : 0 < N.length := by decide) (hd : ns.Nodup := by decide) (hz : ns.length < 1000 := by decide) :
    FnG P w K mg base (k + 1) f fd ps (spI K mg c ns n (mInit N.length gs fs)) :=
  ok_initG F S hps hN T.C T.n hd hz fun cdv A outer s H E hg hr => by
    obtain ⟨ts, hb⟩ := body cdv A outer s H E hg hr
    exact ⟨ts, (hb ⟨[], [], fun _ => none, [], none⟩).pe, fun G => (hb G).sim⟩
def toS : PV → Option Str
  | .str x => some x
  | _ => none
def joinOk (a : Str) (ys : List Str) : Bool := decide ((ys.map (·.length)).sum + ys.length * a.length ≤ 16777216)
def gJoin : PV → PV → Store → Res PV
  | .str a, .lst xs, S => match xs.mapM toS with | some ys => if joinOk a ys = true then .ok (.str (Txt.join a ys)) S else .bad | none => .bad
  | .str a, .tup xs, S => match xs.mapM toS with | some ys => if joinOk a ys = true then .ok (.str (Txt.join a ys)) S else .bad | none => .bad
  | _, _, _ => .bad
def mJoin (f g : Rho → Store → Res PV) : Rho → Store → Res PV := fun ρ S => (f ρ S).bind fun x S1 => match x with
  | .str a => (g ρ S1).bind fun y S2 => gJoin (.str a) y S2
  | _ => .bad
end Mir
set_option maxHeartbeats 4000000
namespace Mir
open PySem PySem.Spec PyProof.Rows L2
end Mir
set_option maxHeartbeats 4000000
namespace Mir
open PySem PySem.Spec PyProof.Rows L2
def mInOwn (neg : Bool) (i : Nat) (f : Rho → Store → Res PV) : Rho → Store → Res PV := fun ρ S => (f ρ S).bind fun x S1 => match ρ[i]? with
  | some (.own (.lst xs)) => gInD neg x (.lst xs) S1
  | _ => .bad
theorem own_data {K : PySem.W.Frag} {mg : Str → Option Value} {G : Wd} {E : XK} {neg : Bool} {i : Nat} {w w1 : Wd} {ρ : Rho} {σ : L2.St} {Q : VK} {x : PV} {v : V} (I : FI K G w1 ρ σ) (r : RV K w1.L w1.hc x v)
    (g : Good (match ρ[i]? with | some (.own (.lst xs)) => gInD neg x (.lst xs) w1.S | _ => .bad) (PostV K w Q) (ExP K mg E w)) (s : WStep w w1) :
    ∃ (p : Addr) (d : PyData) (ds : List PyData), σ[i]? = some (some (.ref p)) ∧ Dp K w1.H v d ∧ Dp K w1.H (.ref p) (.list ds) ∧ SeqAt.shaped d = true ∧ SeqAt.shaped (.list ds) = true ∧ Q (.bl (if neg then !(ds.any fun z => PyData.eqv z d) else ds.any fun z => PyData.eqv z d)) w1.H := by
  cases hi : ρ[i]? with
  | none => rw [hi] at g; exact g.elim
  | some o =>
    rw [hi] at g
    cases o <;> first | exact g.elim | skip
    rename_i o
    cases o <;> first | exact g.elim | skip
    rename_i xs
    have g : Good (gInD neg x (.lst xs) w1.S) (PostV K w Q) (ExP K mg E w) := g
    obtain ⟨p, a, b, c, d, us, r1, r2⟩ := I.own i _ hi
    unfold gInD at g
    cases e1 : toD x with
    | none => rw [e1] at g; exact g.elim
    | some dx =>
      rw [e1] at g
      cases e2 : toDs xs with
      | none =>
        simp only [toD, e2, Option.map_none] at g
        exact g.elim
      | some ds =>
        simp only [toD, e2, Option.map_some] at g
        obtain ⟨c', g⟩ := good_if g
        obtain ⟨c1, c2⟩ := He.ba c'
        exact ⟨p, dx, ds, a, toD_dp (fun a o h => (cut_some h).2) e1 r, .lst (.inl (.inl r1)) (toDs_dp (fun a o h => (cut_some h).2) e2 r2), c1, c2, g w1 _ rfl s I.ok rfl⟩
section
variable {X : Cx} {G : Wd} {E : EK}
theorem sim_ninOwn {K : PySem.W.Frag} {mg : Str → Option Value} {i : Nat} {te f} (he : ESim K mg G E te f) : ESim K mg G E (tOp (rNotInA K) te (tVar i)) (mInOwn true i f) := fun w ρ σ Q I q => by
  refine he w ρ σ _ I (Good.imp (Good.bind1 q) (fun x S1 h1 => ?_) fun _ _ _ h => h)
  intro w1 v e1 s1 k1 r1
  subst e1
  obtain ⟨p, d, ds, a, h2, h3, h4, h5, h6⟩ := own_data (neg := true) (I.step s1 k1) r1 h1 s1
  exact ⟨.ref p, a, .inl ⟨d, ds, h2, h3, h4, h5, h6⟩⟩
theorem ft_ninOwn (K : PySem.W.Frag) {i : Nat} {a : Expr} {x : Str} {px pos : Pos} {ta fa} (hu : X.A.units + 200 < cLine) (ha : FE X G E a ta fa) (hx : PE X (.Name x px) (tVar i)) (h : X.K = K := by rfl) (hm : behindInMarks .NotIn (.Name x px) = false := by first | exact nobehind _ (by decide) (by decide) | rfl) :
    FT X G E (.Compare a [.NotIn] [.Name x px] pos) (tTest (tOp (rNotInA K) ta (tVar i))) (mB (mInOwn true i fa)) := by
  subst h
  exact ⟨pt_cmpR (kNotInD X.K hu) ha.pe hx hm, sim_test (sim_ninOwn ha.sim)⟩
end
end Mir
set_option maxHeartbeats 4000000
namespace Mir
open PySem PySem.Spec PyProof.Rows L2
end Mir
set_option maxHeartbeats 4000000
namespace Mir
open PySem PySem.Spec PyProof.Rows L2
mutual
def low (n : Nat) : PV → Bool
  | .tup xs => lows n xs
  | .lst xs => lows n xs
  | .cl xs => lows n xs
  | .obj m => decide (m < n)
  | .dk _ xs => lows n xs
  | .ins _ _ xs => lows n xs
  | .pt xs => lows n xs
  | _ => true
def lows (n : Nat) : List PV → Bool
  | [] => true
  | x :: xs => low n x && lows n xs
end
section
variable {K : PySem.W.Frag} {L M : List Addr} {Hc Hc0 : Hp}
mutual
theorem rv_cut : ∀ {x : PV} {v : V}, low L.length x = true → RV K (L ++ M) Hc x v → RV K L Hc x v
  | .non, _, _, h => h
  | .bl _, _, _, h => h
  | .int _, _, _, h => h
  | .str _, _, _, h => h
  | .tup xs, _, l, h => by
    obtain ⟨a, vs, h1, h2, h3⟩ := h
    exact ⟨a, vs, h1, h2, rvs_cut (xs := xs) l h3⟩
  | .lst xs, _, l, h => by
    obtain ⟨a, vs, h1, h2, h3⟩ := h
    exact ⟨a, vs, h1, h2, rvs_cut (xs := xs) l h3⟩
  | .cl xs, _, l, h => by
    obtain ⟨a, vs, h1, h2, h3⟩ := h
    exact ⟨a, vs, h1, h2, rvs_cut (xs := xs) l h3⟩
  | .obj m, _, l, h => by
    obtain ⟨a, h1, h2⟩ := h
    have l : decide (m < L.length) = true := l
    rw [List.getElem?_append_left (of_decide_eq_true l)] at h2
    exact ⟨a, h1, h2⟩
  | .dk ks xs, _, l, h => by
    obtain ⟨a, vs, h1, h2, h3, h4⟩ := h
    exact ⟨a, vs, h1, h2, h3, rvs_cut (xs := xs) l h4⟩
  | .ins c ns xs, _, l, h => by
    obtain ⟨a, dx, vs, h1, h2, h3, h4⟩ := h
    exact ⟨a, dx, vs, h1, h2, h3, rvs_cut (xs := xs) l h4⟩
  | .fn _, _, _, h => h
  | .pt xs, _, l, h => by
    obtain ⟨a, vs, h1, h2, h3⟩ := h
    exact ⟨a, vs, h1, h2, rvs_cut (xs := xs) l h3⟩
theorem rvs_cut : ∀ {xs : List PV} {vs : List V}, lows L.length xs = true → RVs K (L ++ M) Hc xs vs → RVs K L Hc xs vs
  | [], _, _, h => h
  | x :: xs, _, l, h => by
    obtain ⟨v, r, h1, h2, h3⟩ := h
    have l : (low L.length x && lows L.length xs) = true := l
    rw [Bool.and_eq_true] at l
    exact ⟨v, r, h1, rv_cut l.1 h2, rvs_cut l.2 h3⟩
end
def lowF (n : Nat) (fs : List (Str × PV)) : Bool := fs.all fun p => low n p.2
theorem rf_cut : ∀ {fs : List (Str × PV)} {vs : List (Str × V)}, lowF L.length fs = true → RF K (L ++ M) Hc fs vs → RF K L Hc fs vs
  | [], _, _, h => h
  | (f, x) :: fs, _, l, h => by
    obtain ⟨v, r, h1, h2, h3⟩ := h
    have l : (low L.length x && lowF L.length fs) = true := l
    rw [Bool.and_eq_true] at l
    exact ⟨v, r, h1, rv_cut l.1 h2, rf_cut l.2 h3⟩
end
def Wd.back (w w' : Wd) : Wd := { w' with L := w.L, S := w.S }
section
variable {K : PySem.W.Frag} {mg : Str → Option Value} {G w w' : Wd} {p : Addr} {o : SO}
end
def mGs : List (Rho → Store → Res Out) → Rho → Store → Res Rho
  | [], ρ, S => .ok ρ S
  | g :: gs, ρ, S => (g ρ S).bind fun o S1 => match o with
    | .nx ρ1 => mGs gs ρ1 S1
    | _ => .bad
end Mir
set_option maxHeartbeats 4000000
namespace Mir
open PySem PySem.Spec PyProof.Rows L2
section
variable {X : Cx} {k : Nat} {f : Addr} {fd : FuncData} {ps : List Str} {sp : Sp}
end
section
variable {X : Cx} {k : Nat} {C f : Addr} {fd : FuncData} {ps : List Str} {sp : Sp} {E : EK} {m : Str} {o e : Expr} {es : List Expr} {ta : TE} {t : TA} {pos apos : Pos}
end
section
variable {X : Cx} {G : Wd} {E : EK}
end
section
variable {P : Program} {w : World} {K : PySem.W.Frag} {mg : Str → Option Value} {base : Heap} {X : Cx} {G : Wd} {E : EK} {k : Nat} {f : Addr} {fd : FuncData} {ps : List Str} {m : List PV → Store → Res PV} {c mn : Str}
end
end Mir
set_option maxHeartbeats 0
namespace K35
open PySem PySem.Spec PyProof.Rows L2 Mir
def topS (i : Nat) : Stmt := PySem.Challenge.pw_cellrealm_k35_pair_clauses.main.body.getD i (.Pass ⟨0, 0, 0, 0⟩)
abbrev s_is_below : Stmt := topS 6
abbrev s_is_row : Stmt := topS 7
abbrev s_are_rows : Stmt := topS 8
abbrev s_fulfils : Stmt := topS 11
abbrev s_all_rows : Stmt := topS 12
abbrev s_all_places : Stmt := topS 13
abbrev s_thinned : Stmt := topS 14
abbrev s_every_if : Stmt := topS 15
abbrev s_every_pair : Stmt := topS 16
abbrev s_pair_clauses : Stmt := topS 17
abbrev s__law_draws : Stmt := topS 19
abbrev s__law_take : Stmt := topS 20
abbrev s__law_all_rows : Stmt := topS 21
abbrev s__law_table : Stmt := topS 22
abbrev s__law_made : Stmt := topS 23
abbrev s__law_chosen : Stmt := topS 24
abbrev s__law_closed : Stmt := topS 25
abbrev s__law_fulfils : Stmt := topS 26
abbrev s__law_told : Stmt := topS 27
abbrev s__law_any : Stmt := topS 28
abbrev s__law_is_number : Stmt := topS 29
abbrev s__law_are_places : Stmt := topS 30
abbrev s__law_is_clause : Stmt := topS 31
abbrev s_law : Stmt := topS 32
def c_MOST_PLACES : PV := (.int (4))
abbrev si_InvalidRelation : Stmt := clsStmt (topS 3) 0
abbrev si_Relation : Stmt := clsStmt (topS 9) 0
end K35
set_option maxHeartbeats 0
namespace K35
open PySem PySem.Spec PyProof.Rows L2 Mir
def dd_is_below : He.DefD := ⟨("is_below", none), "is_below", "is_below", defArgs s_is_below, defBody s_is_below, defScope s_is_below, [], []⟩
def dd_is_row : He.DefD := ⟨("is_row", none), "is_row", "is_row", defArgs s_is_row, defBody s_is_row, defScope s_is_row, [], []⟩
def dd_are_rows : He.DefD := ⟨("are_rows", none), "are_rows", "are_rows", defArgs s_are_rows, defBody s_are_rows, defScope s_are_rows, [], []⟩
def dd_fulfils : He.DefD := ⟨("fulfils", none), "fulfils", "fulfils", defArgs s_fulfils, defBody s_fulfils, defScope s_fulfils, [], []⟩
def dd_all_rows : He.DefD := ⟨("all_rows", none), "all_rows", "all_rows", defArgs s_all_rows, defBody s_all_rows, defScope s_all_rows, [], []⟩
def dd_all_places : He.DefD := ⟨("all_places", none), "all_places", "all_places", defArgs s_all_places, defBody s_all_places, defScope s_all_places, [], []⟩
def dd_thinned : He.DefD := ⟨("thinned", none), "thinned", "thinned", defArgs s_thinned, defBody s_thinned, defScope s_thinned, [], []⟩
def dd_every_if : He.DefD := ⟨("every_if", none), "every_if", "every_if", defArgs s_every_if, defBody s_every_if, defScope s_every_if, [], []⟩
def dd_every_pair : He.DefD := ⟨("every_pair", none), "every_pair", "every_pair", defArgs s_every_pair, defBody s_every_pair, defScope s_every_pair, [], []⟩
def dd_pair_clauses : He.DefD := ⟨("pair_clauses", none), "pair_clauses", "pair_clauses", defArgs s_pair_clauses, defBody s_pair_clauses, defScope s_pair_clauses, [], []⟩
def dd__law_draws : He.DefD := ⟨("_law_draws", none), "_law_draws", "_law_draws", defArgs s__law_draws, defBody s__law_draws, defScope s__law_draws, [], []⟩
def dd__law_take : He.DefD := ⟨("_law_take", none), "_law_take", "_law_take", defArgs s__law_take, defBody s__law_take, defScope s__law_take, [], []⟩
def dd__law_all_rows : He.DefD := ⟨("_law_all_rows", none), "_law_all_rows", "_law_all_rows", defArgs s__law_all_rows, defBody s__law_all_rows, defScope s__law_all_rows, [], []⟩
def dd__law_table : He.DefD := ⟨("_law_table", none), "_law_table", "_law_table", defArgs s__law_table, defBody s__law_table, defScope s__law_table, [], []⟩
def dd__law_made : He.DefD := ⟨("_law_made", none), "_law_made", "_law_made", defArgs s__law_made, defBody s__law_made, defScope s__law_made, [], []⟩
def dd__law_chosen : He.DefD := ⟨("_law_chosen", none), "_law_chosen", "_law_chosen", defArgs s__law_chosen, defBody s__law_chosen, defScope s__law_chosen, [], []⟩
def dd__law_closed : He.DefD := ⟨("_law_closed", none), "_law_closed", "_law_closed", defArgs s__law_closed, defBody s__law_closed, defScope s__law_closed, [], []⟩
def dd__law_fulfils : He.DefD := ⟨("_law_fulfils", none), "_law_fulfils", "_law_fulfils", defArgs s__law_fulfils, defBody s__law_fulfils, defScope s__law_fulfils, [], []⟩
def dd__law_told : He.DefD := ⟨("_law_told", none), "_law_told", "_law_told", defArgs s__law_told, defBody s__law_told, defScope s__law_told, [], []⟩
def dd__law_any : He.DefD := ⟨("_law_any", none), "_law_any", "_law_any", defArgs s__law_any, defBody s__law_any, defScope s__law_any, [], []⟩
def dd__law_is_number : He.DefD := ⟨("_law_is_number", none), "_law_is_number", "_law_is_number", defArgs s__law_is_number, defBody s__law_is_number, defScope s__law_is_number, [], []⟩
def dd__law_are_places : He.DefD := ⟨("_law_are_places", none), "_law_are_places", "_law_are_places", defArgs s__law_are_places, defBody s__law_are_places, defScope s__law_are_places, [], []⟩
def dd__law_is_clause : He.DefD := ⟨("_law_is_clause", none), "_law_is_clause", "_law_is_clause", defArgs s__law_is_clause, defBody s__law_is_clause, defScope s__law_is_clause, [], []⟩
def dd_law : He.DefD := ⟨("law", none), "law", "law", defArgs s_law, defBody s_law, defScope s_law, [], []⟩
def ddi_InvalidRelation : He.DefD := ⟨("InvalidRelation", some "__init__"), "__init__", "InvalidRelation.__init__", defArgs si_InvalidRelation, defBody si_InvalidRelation, defScope si_InvalidRelation, [], []⟩
def ddi_Relation : He.DefD := ⟨("Relation", some "__init__"), "__init__", "Relation.__init__", defArgs si_Relation, defBody si_Relation, defScope si_Relation, [], []⟩
def fn : List He.DefD := [dd_is_below, dd_is_row, dd_are_rows, dd_fulfils, dd_all_rows, dd_all_places, dd_thinned, dd_every_if, dd_every_pair, dd_pair_clauses, dd__law_draws, dd__law_take, dd__law_all_rows, dd__law_table, dd__law_made, dd__law_chosen, dd__law_closed, dd__law_fulfils, dd__law_told, dd__law_any, dd__law_is_number, dd__law_are_places, dd__law_is_clause, dd_law, ddi_InvalidRelation, ddi_Relation]
def fa : List He.Fa := ([.glo "is_below", .glo "is_row", .glo "are_rows", .glo "fulfils", .glo "all_rows", .glo "all_places", .glo "thinned", .glo "every_if", .glo "every_pair", .glo "pair_clauses", .glo "_law_draws", .glo "_law_take", .glo "_law_all_rows", .glo "_law_table", .glo "_law_made"] : List He.Fa) ++ ([.glo "_law_chosen", .glo "_law_closed", .glo "_law_fulfils", .glo "_law_told", .glo "_law_any", .glo "_law_is_number", .glo "_law_are_places", .glo "_law_is_clause", .glo "law", .free "abs", .free "all", .free "any", .free "bool", .free "int", .free "isinstance"] : List He.Fa) ++ ([.free "len", .free "list", .free "range", .free "repr", .free "sorted", .free "sum", .free "tuple", .free "zip"] : List He.Fa)
def ts : List He.Tab := []
def ex (K : PySem.W.Frag) : Bool := [cstB K "MOST_PLACES" c_MOST_PLACES, xclsB K "InvalidRelation" ["value"], kclsB K "Relation" ["size", "rows"]].all id
abbrev R : PySem.W.OpenRow := PySem.W.OpenLaw.row PySem.Challenge.rw_cellrealm_k35_pair_clauses
abbrev qv : Program := PySem.W.view R.prog [32]
def loose : List Str := (["_wall", "is_below", "is_row", "are_rows", "fulfils", "all_rows", "all_places", "thinned", "every_if", "every_pair", "pair_clauses", "_law_draws", "_law_take", "_law_all_rows", "_law_table"] : List Str) ++ (["_law_made", "_law_chosen", "_law_closed", "_law_fulfils", "_law_told", "_law_any", "_law_is_number", "_law_are_places", "_law_is_clause", "CellError", "InvalidRelation", "MOST_PLACES", "Relation"] : List Str)
theorem run (w : World) : HandSHeadRun.RunEq R qv (hookN 4 fa fn ts ex) (obN 4 fa fn ts ex) 20000 loose w := by
  intro os
  kernel_rfl
end K35
set_option maxHeartbeats 4000000
namespace Mir
open PySem PySem.Spec PyProof.Rows L2
/-- g, which does not return, then f -/
def mSeqB (f g : Rho → Store → Res Out) : Rho → Store → Res Out := fun ρ S => (f ρ S).bind fun o S1 => match o with
  | .nx ρ' => g ρ' S1
  | _ => .bad
section
variable {X : Cx} {G : Wd} {E : XK}
end
end Mir
set_option maxHeartbeats 4000000
namespace Mir
open PySem PySem.Spec PyProof.Rows L2
section
variable {K : PySem.W.Frag} {mg : Str → Option Value} {G w : Wd} {ρ : Rho} {σ : L2.St}
end
end Mir
set_option maxHeartbeats 4000000
namespace Mir
open PySem PySem.Spec PyProof.Rows L2
open PySem.W (EachIs AllAlike Sortable dataLe alike)
theorem vals_each : ∀ {zs : List (V × PyData)} {us : List Value}, Vals (zs.map Prod.fst) us → EachIs (fun u z => RelV z.1 u) us zs
  | [], us, r => by
    cases r
    exact .nil
  | z :: zs, us, r => by
    cases r with
    | cons r1 r2 => exact .cons r1 (vals_each r2)
theorem each_vals : ∀ {zs : List (V × PyData)} {us : List Value}, EachIs (fun u z => RelV z.1 u) us zs → Vals (zs.map Prod.fst) us
  | _, _, .nil => .nil
  | _, _, .cons h t => .cons h (each_vals t)
def sortD (xs : List PV) (ds : List PyData) : List PV := ((xs.zip ds).mergeSort (dataLe false Prod.snd)).map Prod.fst
theorem rvs_map {K : PySem.W.Frag} {L : List Addr} {Hc : Hp} : ∀ {ts : List ((PV × V) × PyData)}, (∀ t ∈ ts, RV K L Hc t.1.1 t.1.2) → RVs K L Hc (ts.map fun t => t.1.1) (ts.map fun t => t.1.2)
  | [], _ => rfl
  | t :: ts, h => ⟨_, _, rfl, h t List.mem_cons_self, rvs_map fun u hu => h u (List.mem_cons_of_mem _ hu)⟩
end Mir
set_option maxHeartbeats 4000000
namespace Mir
open PySem PySem.Spec PyProof.Rows L2
end Mir
set_option maxHeartbeats 4000000
namespace Mir
open PySem PySem.Spec PyProof.Rows L2
def lowO (n : Nat) : SO → Bool
  | .lst xs => lows n xs
  | .dk _ xs => lows n xs
  | .ins _ _ xs => lows n xs
def lowS (n : Nat) (S : Store) : Bool := S.all (lowO n)
def gc {α : Type} (n : Nat) (ok : α → Bool) : Res α → Res α
  | .ok x S => if ok x = true ∧ lowS n (S.take n) = true then .ok x (S.take n) else .bad
  | .exc c fs S => if lowF n fs = true ∧ lowS n (S.take n) = true then .exc c fs (S.take n) else .bad
  | .bad => .bad
/-- the def's promise, with the store as long as ahead of the call -/
def gcM (m : List PV → Store → Res PV) : List PV → Store → Res PV := fun xs S => gc S.length (low S.length) (m xs S)
section
variable {K : PySem.W.Frag} {mg : Str → Option Value} {L M : List Addr} {Hc : Hp}
theorem sok_low {ho : Option HO} {o : SO} (l : lowO L.length o = true) (h : SOk K (L ++ M) Hc ho o) : SOk K L Hc ho o := by
  cases o with
  | lst xs =>
    obtain ⟨vs, h1, r⟩ := h
    exact ⟨vs, h1, rvs_cut l r⟩
  | dk ks xs =>
    obtain ⟨vs, h1, h2, r⟩ := h
    exact ⟨vs, h1, h2, rvs_cut l r⟩
  | ins c ns xs =>
    obtain ⟨dx, vs, h1, h2, r⟩ := h
    exact ⟨dx, vs, h1, h2, rvs_cut l r⟩
/-- the world without what came behind -/
def Wd.less (w w' : Wd) : Wd := { w' with L := w.L, S := w'.S.take w.S.length }
variable {w w' : Wd}
theorem less_L (k : WOk K w) (s : WStep w w') : ∃ M, w'.L = w.L ++ M := by
  obtain ⟨t, e⟩ := s.pre
  exact ⟨t, e.symm⟩
theorem less_ok (k : WOk K w) (k' : WOk K w') (s : WStep w w') (l : lowS w.S.length (w'.S.take w.S.length) = true) : WOk K (w.less w') := by
  obtain ⟨M, eM⟩ := less_L k s
  have hlen : w.S.length ≤ w'.S.length := by
    rw [k'.len, k.len, eM, List.length_append]
    omega
  refine ⟨fun a h => s.omono a (k.sub a h), k.nd, ?_, fun n o a h1 h2 => ?_, k'.dom⟩
  · show (w'.S.take w.S.length).length = w.L.length
    rw [List.length_take, Nat.min_eq_left hlen, k.len]
  · have h1 : (w'.S.take w.S.length)[n]? = some o := h1
    have h2 : w.L[n]? = some a := h2
    have lo : lowO w.S.length o = true := List.all_eq_true.mp l o (List.mem_of_getElem? h1)
    have g1 : w'.S[n]? = some o := by
      have hn : n < w.S.length := by
        have := (List.getElem?_eq_some_iff.mp h1).1
        rw [List.length_take] at this
        omega
      rw [List.getElem?_take_of_lt hn] at h1
      exact h1
    have g2 : w'.L[n]? = some a := by rw [eM, List.getElem?_append_left (List.getElem?_eq_some_iff.mp h2).1]; exact h2
    have g := k'.st n o a g1 g2
    rw [eM] at g
    rw [k.len] at lo
    exact sok_low lo g
theorem less_step (k : WOk K w) (s : WStep w w') : WStep w (w.less w') := ⟨List.prefix_refl _, s.keep, s.omono, s.oset, fun a h => .inl h⟩
theorem gc_spM {n : Nat} {m : List PV → Store → Res PV} {vs : List V} {H : Hp} {Q : VK} {E : XK} (h : spM K mg n (gcM m) vs H Q E) : spM K mg n m vs H Q E := by
  obtain ⟨xs, w, rfl, k, r, hl, g⟩ := h
  refine ⟨xs, w, rfl, k, r, hl, ?_⟩
  unfold gcM gc at g
  cases e : m xs w.S with
  | bad => rw [e] at g; exact g.elim
  | exc c fs S' =>
    rw [e] at g
    obtain ⟨⟨l1, l2⟩, g⟩ := good_if g
    intro w' C d us e' s' k' hm hx rf
    subst e'
    obtain ⟨M, eM⟩ := less_L k s'
    rw [eM] at rf
    rw [k.len] at l1
    exact g (w.less w') C d us rfl (less_step k s') (less_ok k k' s' l2) hm hx (rf_cut l1 rf)
  | ok x S' =>
    rw [e] at g
    obtain ⟨⟨l1, l2⟩, g⟩ := good_if g
    intro w' v e' s' k' rv
    subst e'
    obtain ⟨M, eM⟩ := less_L k s'
    rw [k.len] at l1
    refine g (w.less w') v rfl (less_step k s') (less_ok k k' s' l2) ?_
    show RV K w.L (cut w'.H (w.O ++ w.L)) x v
    rw [eM] at rv
    refine (rv_cut l1 rv).mono (List.prefix_refl _) fun a o ha => ?_
    obtain ⟨h1, h2⟩ := cut_some ha
    rw [cut_out fun z => h1 (by
      rcases List.mem_append.mp z with z | z
      · exact List.mem_append_left _ z
      · exact List.mem_append_right _ (List.mem_append_left _ z))]
    exact h2
theorem FnG.gc {P : Program} {w : World} {base : Heap} {k : Nat} {f : Addr} {fd : FuncData} {ps : List Str} {n : Nat} {m : List PV → Store → Res PV} (F : FnG P w K mg base k f fd ps (spM K mg n m)) : FnG P w K mg base k f fd ps (spM K mg n (gcM m)) :=
  ⟨fun vs H Q E h => F.arity vs H Q E (gc_spM h), fun A outer s H args us vs Q E hg hr e0 hb r h => F.go A outer s H args us vs Q E hg hr e0 hb r (gc_spM h)⟩
end
end Mir
set_option maxHeartbeats 4000000
namespace Mir
open PySem PySem.Spec PyProof.Rows L2
/-- keys and values of a dict -/
def lookD : PV → Store → Option (List Key × List PV)
  | .dk ks xs, _ => some (ks, xs)
  | .obj n, S => (match S[n]? with
    | some (.dk ks xs) => some (ks, xs)
    | _ => none)
  | _, _ => none
/-- items of a list in the store -/
def lookL : PV → Store → Option (List PV)
  | .obj n, S => (match S[n]? with
    | some (.lst xs) => some xs
    | _ => none)
  | _, _ => none
theorem lookL_obj {n : Nat} {S : Store} : lookL (.obj n) S = match S[n]? with
    | some (.lst xs) => some xs
    | _ => none := rfl
section
variable {K : PySem.W.Frag} {mg : Str → Option Value} {G : Wd}
theorem lookL_rv {w : Wd} (k : WOk K w) {x : PV} {v : V} {xs : List PV} (r : RV K w.L w.hc x v) (h : lookL x w.S = some xs) : ∃ n a vs, x = .obj n ∧ w.S[n]? = some (.lst xs) ∧ v = .ref a ∧ w.L[n]? = some a ∧ w.H a = some (.lst vs) ∧ RVs K w.L w.hc xs vs := by
  cases x <;> first | (cases h; done) | skip
  rename_i n
  rw [lookL_obj] at h
  cases e : w.S[n]? with
  | none => rw [e] at h; cases h
  | some o =>
    rw [e] at h
    cases o <;> first | (cases h; done) | skip
    cases h
    obtain ⟨a, vs, rfl, h1, h2, h3⟩ := st_at k r e
    exact ⟨n, a, vs, rfl, e, rfl, h1, h2, h3⟩
end
section
variable {X : Cx} {G : Wd} {E : EK} {E1 : XK}
end
end Mir
set_option maxHeartbeats 4000000
namespace Mir
open PySem PySem.Spec PyProof.Rows L2
def getD (a y z : PV) (S : Store) : Res PV := match lookD a S with
  | some (ks, xs) => (match keyP y with
    | some k => .ok ((valP ks xs k).getD z) S
    | none => .bad)
  | none => .bad
/-- d.get(k, x) -/
def mDGet2 (fd fk fx : Rho → Store → Res PV) : Rho → Store → Res PV := fun ρ S => (fd ρ S).bind fun a S1 => if (lookD a S1).isSome = true then (fk ρ S1).bind fun y S2 => (fx ρ S2).bind fun z S3 => getD a y z S3 else .bad
def mDGet1 (fd fk : Rho → Store → Res PV) : Rho → Store → Res PV := fun ρ S => (fd ρ S).bind fun a S1 => if (lookD a S1).isSome = true then (fk ρ S1).bind fun y S2 => getD a y .non S2 else .bad
/-- what an object of the store becomes -/
def setS (a : PV) (o : SO) (S : Store) : Store := match a with
  | .obj n => S.set n o
  | _ => S
def isObj : PV → Bool
  | .obj _ => true
  | _ => false
def setdD (a y z : PV) (S : Store) : Res PV := match lookD a S with
  | some (ks, xs) => (match keyP y with
    | some k => if ks.length < sizeM then (match valP ks xs k with
      | some v => .ok v S
      | none => .ok z (setS a (.dk (putKs ks k) (putXs ks xs k z)) S)) else .bad
    | none => .bad)
  | none => .bad
/-- d.setdefault(k, x) -/
def mDSetd (fd fk fx : Rho → Store → Res PV) : Rho → Store → Res PV := fun ρ S => (fd ρ S).bind fun a S1 => if isObj a = true ∧ (lookD a S1).isSome = true then (fk ρ S1).bind fun y S2 => (fx ρ S2).bind fun z S3 => setdD a y z S3 else .bad
/-- d[k] = e, d any expression -/
def putD (a y z : PV) (ρ : Rho) (S : Store) : Res Out := match lookD a S with
  | some (ks, xs) => (match keyP y with
    | some k => if isObj a = true ∧ ks.length < sizeM then .ok (.nx ρ) (setS a (.dk (putKs ks k) (putXs ks xs k z)) S) else .bad
    | none => .bad)
  | none => .bad
def mPutE (fd fk f : Rho → Store → Res PV) : Rho → Store → Res Out := fun ρ S => (f ρ S).bind fun z S1 => (fd ρ S1).bind fun a S2 => (fk ρ S2).bind fun y S3 => putD a y z ρ S3
/-- o.append(e), o any expression -/
def mAppE (fo fe : Rho → Store → Res PV) : Rho → Store → Res PV := fun ρ S => (fo ρ S).bind fun a S1 => if (lookL a S1).isSome = true then (fe ρ S1).bind fun y S2 => match lookL a S2 with
  | some xs => if xs.length < sizeM then .ok .non (setS a (.lst (xs ++ [y])) S2) else .bad
  | none => .bad else .bad
/-- {} -/
def mNewD : Rho → Store → Res SO := fun _ S => .ok (.dk [] []) S
section
variable {K : PySem.W.Frag} {mg : Str → Option Value} {G : Wd} {E : EK} {E1 : XK}
/-- an object of the store is written -/
theorem obj_wr {w : Wd} (k : WOk K w) {a : PV} {p : Addr} (ra : RV K w.L w.hc a (.ref p)) (ho : isObj a = true) (o : SO) (h : HO) (so : SOk K w.L w.hc (some h) o) : ∃ w', w'.S = setS a o w.S ∧ w'.H = upd w.H p h ∧ w'.L = w.L ∧ WStep w w' ∧ WOk K w' := by
  cases a <;> first | (cases ho; done) | skip
  rename_i n
  obtain ⟨p', e, hp⟩ := ra
  cases e
  exact ⟨w.put2 p h n o, rfl, rfl, rfl, put2_step k hp, put2_ok k hp so⟩
theorem tyL_of {w : Wd} (k : WOk K w) {x : PV} {v : V} (r : RV K w.L w.hc x v) (h : (lookL x w.S).isSome = true) : tyV K "list" v w.H ∧ isObj x = true := by
  cases e : lookL x w.S with
  | none => rw [e] at h; cases h
  | some xs =>
    obtain ⟨n, a, vs, rfl, _, rfl, _, h1, _⟩ := lookL_rv k r e
    exact ⟨.inl ⟨rfl, vs, .inl (.inl h1)⟩, rfl⟩
end
section
variable {X : Cx} {G : Wd} {E : EK} {E1 : XK}
end
end Mir
set_option maxHeartbeats 4000000
namespace Mir
open PySem PySem.Spec PyProof.Rows L2
/-- a new tuple, with the object that it is -/
def newP (H : Hp) (ys : List V) (Q : VK) : Prop := ∀ (o : Obj) (l : Addr), H l = none → o.dict = none → Q (.ref l) (upd H l (.frz o (.tup ys)))
def rTupleP (K : PySem.W.Frag) : List V → Hp → VK → Prop := fun xs H Q => ∃ p ys, xs = [V.ref p] ∧ ((SqL K H p ys ∧ newP H ys Q) ∨ (PlT K H p ys ∧ Q (.ref p) H))
theorem cr_tupleP {X : Cx} : CallR X (.type "tuple") (rTupleP X.K) := by
  rintro pins s σ H vs us Q I r ⟨p, ys, rfl, h⟩
  obtain ⟨u, rfl, ru⟩ := L2.vals1 r
  cases ru
  rcases h with ⟨hl, q⟩ | ⟨hl, q⟩
  · obtain ⟨its, hv, ⟨o, n, g1, g2, g3, g4⟩, hz⟩ := I.list hl
    have il : its.toArray.size = ys.length := by rw [List.size_toArray, hv.length]
    refine PySem.call_tuple_list (items := its.toArray) ⟨o, g1, g2, n, g4⟩ (fun h' kp => ?_) (by rw [il]; exact hz)
    have J1 : Inv X pins σ H { s with heap := h', toks := s.toks } := I.kept kp
    have J := J1.laid (o := HO.frz { cls := .type "tuple", data := .seq its.toArray } (.tup ys)) (a := h'.objs.size) (h' := h'.push { cls := .type "tuple", data := .seq its.toArray }) (t' := s.toks) (fun b u e => Heap.get?_push_of_some _ e) (Nat.le_refl _)
      ⟨Heap.get?_push_size _ rfl, hz, its, hv, ⟨_, Heap.get?_push_size _ rfl, rfl, 0, rfl⟩⟩
    exact ⟨.ref h'.objs.size, _, J, rfl, q _ _ (J1.hok.fresh (Nat.le_refl _)) rfl⟩
  · have ht : ∃ its, IsTup s.heap p its := by
      obtain ⟨its, _, h, _⟩ := I.tuple (plT_sqT hl)
      exact ⟨_, h⟩
    obtain ⟨its, ht⟩ := ht
    exact PyProof.Rows.call_tuple_tup ht ⟨.ref p, _, I, rfl, q⟩
section
variable {K : PySem.W.Frag} {mg : Str → Option Value} {G w : Wd} {E : EK} {Q : VK}
theorem post_newP {xs : List PV} {vs : List V} {S : Store} (k : WOk K w) (hS : w.S = S) (r : RVs K w.L w.hc xs vs) (h : PostV K w Q (.pt xs) S) : newP w.H vs Q := fun o p hp ho =>
  h (w.put p (.frz o (.tup vs))) (.ref p) hS (put_step k hp) (put_ok k hp) ⟨p, vs, rfl, .inl ⟨o, put_at k hp, ho⟩, r.mono (List.prefix_refl _) (put_ext hp)⟩
/-- tuple(e) as a plain tuple -/
def gTupleP : List PV → Store → Res PV
  | [.pt xs], S => .ok (.pt xs) S
  | [.lst xs], S => .ok (.pt xs) S
  | [.cl xs], S => .ok (.pt xs) S
  | [.obj n], S => (match lookL (.obj n) S with
    | some xs => .ok (.pt xs) S
    | none => .bad)
  | _, _ => .bad
theorem ra_tupleP {E : XK} : RASim K mg E (rTupleP K) gTupleP := fun w xs vs Q k r g => by
  match xs, g, r with
  | [.pt ys], g, r =>
    obtain ⟨v, rfl, a, us, rfl, r1, r2⟩ := vs1 r
    exact ⟨a, us, rfl, .inr ⟨(by
      rcases r1 with ⟨o, h, d⟩ | h
      · exact .inl ⟨o, hc_lst h, d⟩
      · exact .inr h), post_self k g rfl ⟨a, us, rfl, r1, r2⟩⟩⟩
  | [.lst ys], g, r =>
    obtain ⟨v, rfl, a, us, rfl, r1, r2⟩ := vs1 r
    exact ⟨a, us, rfl, .inl ⟨.inl (.inl (hc_lst r1)), post_newP k rfl r2 g⟩⟩
  | [.cl ys], g, r =>
    obtain ⟨v, rfl, a, us, rfl, r1, r2⟩ := vs1 r
    exact ⟨a, us, rfl, .inl ⟨hc_sqL r1, post_newP k rfl r2 g⟩⟩
  | [.obj n], g, r =>
    obtain ⟨v, rfl, r1⟩ := vs1 r
    have g : Good (match lookL (.obj n) w.S with | some xs => Res.ok (.pt xs) w.S | none => .bad) (PostV K w Q) (ExP K mg E w) := g
    cases e : lookL (.obj n) w.S with
    | none => rw [e] at g; exact g.elim
    | some ys =>
      rw [e] at g
      obtain ⟨_, a, us, _, _, rfl, _, h1, h2⟩ := lookL_rv k r1 e
      exact ⟨a, us, rfl, .inl ⟨.inl (.inl h1), post_newP k rfl h2 g⟩⟩
end
section
variable {X : Cx} {G : Wd} {E : EK}
end
end Mir
set_option maxHeartbeats 4000000
namespace Mir
open PySem PySem.Spec PyProof.Rows L2
end Mir
set_option maxHeartbeats 4000000
namespace Mir
open PySem PySem.Spec PyProof.Rows L2
section
variable {K : PySem.W.Frag} {mg : Str → Option Value} {G w : Wd} {E : XK} {Q : VK} {L : List Addr} {Hc H : Hp}
end
end Mir
set_option maxHeartbeats 4000000
namespace Mir
open PySem PySem.Spec PyProof.Rows L2
open Classical in
/-- a comprehension over a list of the store, which stays -/
noncomputable def mLcOGo (n : Nat) (all : List PV) (g : PV → Rho → Store → Res Rho) (t : Rho → Store → Res Bool) (e : Rho → Store → Res PV) (ρ : Rho) : List PV → Store → Res (List PV)
  | [], S => if S[n]? = some (.lst all) then .ok [] S else .bad
  | x :: xs, S => if S[n]? = some (.lst all) then (g x ρ S).nox.bind fun ρ1 S1 => (t ρ1 S1).nox.bind fun b S2 => if b then (e ρ1 S2).nox.bind fun y S3 => (mLcOGo n all g t e ρ xs S3).bind fun ys S4 => .ok (y :: ys) S4 else mLcOGo n all g t e ρ xs S2 else .bad
noncomputable def mLcX (f : Rho → Store → Res PV) (g : PV → Rho → Store → Res Rho) (t : Rho → Store → Res Bool) (e : Rho → Store → Res PV) (vs : List Nat) : Rho → Store → Res SO := fun ρ S => match f ρ S with
  | .ok (.obj n) S1 => (match lookL (.obj n) S1 with
    | some xs => if xs.length ≤ sizeM then (mLcOGo n xs g t e (mWipe ρ vs) xs S1).bind fun ys S2 => .ok (.lst ys) S2 else .bad
    | none => .bad)
  | _ => mLc (mSeqOf f) g t e vs ρ S
section
variable {K : PySem.W.Frag} {mg : Str → Option Value} {G : Wd} {E : EK}
/-- what a list of the store gives its iterator -/
theorem obj_it {w : Wd} (k : WOk K w) {n : Nat} {a : Addr} {all : List PV} (hl : w.L[n]? = some a) (hS : w.S[n]? = some (.lst all)) (i : Nat) :
    (∀ x, all[i]? = some x → (Itl K a).go i w.H ∧ ∀ v H', (Itl K a).yld i w.H v H' → H' = w.H ∧ RV K w.L w.hc x v) ∧ (all.length ≤ i → (Itl K a).stop i w.H) := by
  obtain ⟨vs, h1, r⟩ := k.st n _ a hS hl
  have hq : SqL K w.H a vs := .inl (.inl h1)
  refine ⟨fun x e => ?_, fun e => ⟨vs, hq, by rw [r.len]; exact e⟩⟩
  obtain ⟨v, e1, e2⟩ := r.get e
  refine ⟨⟨vs, v, hq, e1⟩, fun v' H' h => ?_⟩
  obtain ⟨rfl, h⟩ := h
  have := h vs hq
  rw [e1] at this
  cases this
  exact ⟨rfl, e2⟩
open Classical in
theorem sim_lcX {te tt tg vs f fg ft fe te0} (hf : ESim K mg G E te f) (hg : GtSim K mg G tg fg vs) (ht : TSim K mg G (fun _ => E0) tt ft) (he : ESim K mg G (fun _ => E0) te0 fe) :
    NSim K mg G E (tLc (fun σ H R => iList K te σ H R ∨ iTup K te σ H R) tg tt te0 vs) (mLcX f fg ft fe vs) := fun w ρ σ Q I q => by
  by_cases hx : ∃ n S1, f ρ w.S = .ok (.obj n) S1
  · obtain ⟨n, S1, ef⟩ := hx
    unfold mLcX at q
    rw [ef] at q
    have q : Good (match lookL (.obj n) S1 with
      | some xs => if xs.length ≤ sizeM then (mLcOGo n xs fg ft fe (mWipe ρ vs) xs S1).bind fun ys S2 => .ok (.lst ys) S2 else .bad
      | none => (.bad : Res SO)) (PostN K w Q) (ExP K mg (E σ) w) := q
    refine .inl (hf w ρ σ _ I ?_)
    rw [ef]
    intro w1 v e1 s1 k1 r1
    subst e1
    cases el : lookL (.obj n) w1.S with
    | none => rw [el] at q; exact q.elim
    | some all =>
      rw [el] at q
      have q : Good (if all.length ≤ sizeM then (mLcOGo n all fg ft fe (mWipe ρ vs) all w1.S).bind fun ys S2 => .ok (.lst ys) S2 else .bad) (PostN K w Q) (ExP K mg (E σ) w) := q
      obtain ⟨hsz, h1⟩ := good_if q
      obtain ⟨n', a, us, en, hS, rfl, hLn, hHa, hrs⟩ := lookL_rv k1 r1 el
      cases en
      refine ⟨a, rfl, ⟨us, .inl (.inl hHa)⟩, ?_⟩
      intro D hD
      have k2 := laid_ok (o := .lst []) k1 hD
      have s2 := laid_step (o := .lst []) k1 hD
      have hDL : D ∉ w1.L := k1.ninL hD
      have hDw : w.H D = none := by
        cases e : w.H D with
        | none => rfl
        | some o =>
          by_cases z : D ∈ w.L
          · exact absurd (s1.pre.subset z) hDL
          · rw [s1.keep D o e z] at hD; cases hD
      have I1 := I.step s1 k1
      refine ⟨fun i m H => ∃ w2 pacc acc, w2.H = H ∧ WStep w w2 ∧ WOk K w2 ∧ VStep w1 w2 ∧ D ∈ w2.O ∧ D ∉ w2.L ∧ w2.H D = some (.lst acc) ∧ RVs K w2.L w2.hc pacc acc ∧ acc.length ≤ i ∧ m + i = all.length ∧ FI K G w2 (mWipe ρ vs) (wipe σ vs) ∧
        Good (mLcOGo n all fg ft fe (mWipe ρ vs) (all.drop i) w2.S) (fun ys S' => PostN K w Q (.lst (pacc ++ ys)) S') (ExP K mg (E σ) w),
        ⟨all.length, w1.laid D (.lst []), [], [], rfl, s1.tr s2 I.ok k1, k2, s2.v k1.sub, List.mem_cons_self, hDL, by show upd w1.H D _ D = _; rw [upd_same], rfl, Nat.le_refl _, rfl, (I1.step s2 k2).wipe vs, Good.bind1 h1⟩, ?_⟩
      rintro i m H2 ⟨w2, pacc, acc, rfl, s2', k2', v2, hO, hL, hD2, racc, hlen, em, I2, h2⟩
      have hLn2 : w2.L[n]? = some a := pre_get (l := v2.pre) hLn
      by_cases hx : i < all.length
      · have ed : all.drop i = all[i] :: all.drop (i + 1) := (List.getElem_cons_drop hx).symm
        rw [ed] at h2
        obtain ⟨hS2, h2⟩ := good_if h2
        obtain ⟨go, yl⟩ := (obj_it k2' hLn2 hS2 i).1 all[i] (List.getElem?_eq_getElem hx)
        refine .inr ⟨go, fun H' => ∃ w3 pacc acc, w3.H = H' ∧ WStep w w3 ∧ WOk K w3 ∧ VStep w1 w3 ∧ D ∈ w3.O ∧ D ∉ w3.L ∧ w3.H D = some (.lst acc) ∧ RVs K w3.L w3.hc pacc acc ∧ acc.length ≤ i + 1 ∧ FI K G w3 (mWipe ρ vs) (wipe σ vs) ∧
          Good (mLcOGo n all fg ft fe (mWipe ρ vs) (all.drop (i + 1)) w3.S) (fun ys S' => PostN K w Q (.lst (pacc ++ ys)) S') (ExP K mg (E σ) w), ?_, fun v H' hy => ?_⟩
        · rintro H' ⟨w3, p3, a3, c1, c2, c3, c4, c5, c6, c7, c8, c9, c10, c11⟩
          exact ⟨m - 1, by omega, w3, p3, a3, c1, c2, c3, c4, c5, c6, c7, c8, c9, by omega, c10, c11⟩
        · obtain ⟨rfl, r3⟩ := yl v H' hy
          have h3 := Good.nox (ex' := fun _ _ _ => False) (Good.bind1 h2)
          refine hg w2 _ _ all[i] v _ I2 r3 (Good.imp h3 (fun ρ4 S4 h4 => ?_) fun _ _ _ h => h)
          intro σ4 e4 l4 f4 I4
          subst e4
          have wp := wipe_wipe σ σ4 vs (by rw [l4, wipe_length]) f4
          refine ⟨wp.1.trans wp.2, ?_⟩
          have h4' := Good.nox (ex' := ExP K mg E0 w2) (Good.bind1 h4)
          refine ht w2 ρ4 σ4 _ I4 (Good.imp h4' (fun b S5 h5 => ?_) fun _ _ _ h => h)
          intro w5 e5 s5 k5
          subst e5
          cases b with
          | false =>
            rw [if_neg Bool.false_ne_true] at h5 ⊢
            have hD5 : w5.H D = some (.lst acc) := s5.keep D _ hD2 hL
            refine ⟨w5, pacc, acc, rfl, s2'.tr s5 I.ok k2', k5, v2.trans (s5.v k2'.sub), s5.omono D hO, fun z => ?_, hD5, racc.mono s5.pre (s5.ext k2'.sub), by omega, I2.step s5 k5, h5⟩
            rcases s5.lset D z with y | y
            · exact hL y
            · rw [hD2] at y; cases y
          | true =>
            rw [if_pos rfl] at h5 ⊢
            have h5' := Good.nox (ex' := ExP K mg E0 w5) (Good.bind1 h5)
            refine he w5 ρ4 σ4 _ (I4.step s5 k5) (Good.imp h5' (fun y S6 h6 => ?_) fun _ _ _ h => h)
            intro w6 u e6 s6 k6 r6
            subst e6
            have s26 := s5.tr s6 k2' k5
            have hD6 : w6.H D = some (.lst acc) := s26.keep D _ hD2 hL
            have hL6 : D ∉ w6.L := fun z => by
              rcases s26.lset D z with y | y
              · exact hL y
              · rw [hD2] at y; cases y
            have hO6 := s26.omono D hO
            have v7 : VStep w6 (w6.wr D (.lst (acc ++ [u]))) := wr_v hO6
            have k7 := wr_ok (ho := .lst (acc ++ [u])) k6 hO6 hL6
            have I6 := I2.step s26 k6
            have hGD : G.H D = none := by
              cases e : G.H D with
              | none => rfl
              | some o =>
                by_cases z : D ∈ G.L
                · exact absurd ((I.stp.pre.trans s1.pre).subset z) hDL
                · rw [I.stp.keep D o e z] at hDw; cases hDw
            refine ⟨acc, hD6, Nat.lt_of_le_of_lt hlen (Nat.lt_of_lt_of_le hx (sizeM_le hsz)), w6.wr D (.lst (acc ++ [u])), pacc ++ [y], acc ++ [u], rfl, wr_step (s2'.tr s26 I.ok k2') hDw, k7, (v2.trans (s26.v k2'.sub)).trans v7, hO6, hL6, by show upd w6.H D _ D = _; rw [upd_same], ?_, by simp; omega, ?_, ?_⟩
            · rw [wr_hc hO6]
              exact RVs.append (racc.mono s26.pre (s26.ext k2'.sub)) (RVs.one r6)
            · refine ⟨I6.gok, k7, wr_step I6.stp hGD, I6.len, fun j x e => ?_, fun j o e => ?_, I6.dis, fun j c fs e => ?_⟩
              · rw [wr_hc hO6]; exact I6.val j x e
              · rw [wr_hc hO6]
                obtain ⟨p, a, b, c, d, r⟩ := I6.own j o e
                have np : p ≠ D := fun z => by
                  obtain ⟨p', a', b', _⟩ := (I1.wipe vs).own j o e
                  rw [a'] at a
                  cases a
                  rw [z] at b'
                  exact k1.nin hD b'
                exact ⟨p, a, b, c, d, by show SOk K w6.L w6.hc (upd w6.H D _ p) o; rw [upd_ne np]; exact r⟩
              · rw [wr_hc hO6]; exact I6.pin j c fs e
            · refine Good.imp (Good.bind1 h6) (fun ys S7 h7 => ?_) fun _ _ _ h => h
              rw [List.append_assoc]
              exact h7
      · rw [List.drop_eq_nil_of_le (by omega)] at h2
        obtain ⟨hS2, h2⟩ := good_if h2
        refine .inl ⟨(obj_it k2' hLn2 hS2 i).2 (by omega), ?_⟩
        have h2 : PostN K w Q (.lst (pacc ++ [])) w2.S := h2
        rw [List.append_nil] at h2
        exact h2 w2 D rfl s2' k2' hDw hO hL ⟨acc, hD2, racc⟩
  · have e : mLcX f fg ft fe vs ρ w.S = mLc (mSeqOf f) fg ft fe vs ρ w.S := by
      unfold mLcX
      cases ef : f ρ w.S with
      | ok x S1 => cases x <;> first | rfl | exact absurd ⟨_, _, ef⟩ hx
      | exc c fs S1 => rfl
      | bad => rfl
    rw [e] at q
    exact sim_lc (sim_seqOf hf) hg ht he w ρ σ Q I q
end
section
variable {X : Cx} {G : Wd} {E : EK} {E1 : XK}
theorem fn_lcX (K : PySem.W.Frag) {elt tg iter : Expr} {ifs : List Expr} {scope : Scope} {pos : Pos} {te g tt t0 f fg ft fe} (own : List (Str × Nat)) (hc : X.calm = true) (hN : X.N.Nodup) (ok : BlkOk X.N X.env.scope scope own) (hi : FE X G E iter te f)
    (hg : ∀ (s : Shared) (H : Hp) (C : Addr) (cl : List (Str × Addr)) (fp : List Addr), FGt (X.blk s H scope (compEnvC scope cl C X.env) fp) G tg g fg (own.map (·.2)))
    (ht : ∀ (s : Shared) (H : Hp) (C : Addr) (cl : List (Str × Addr)) (fp : List Addr), FTs (X.blk s H scope (compEnvC scope cl C X.env) fp) G (fun _ => E0) ifs tt ft)
    (he : ∀ (s : Shared) (H : Hp) (C : Addr) (cl : List (Str × Addr)) (fp : List Addr), FE (X.blk s H scope (compEnvC scope cl C X.env) fp) G (fun _ => E0) elt t0 fe) (hs : ∀ x, foldedSetIterable iter X.env x = pure x := by intro _; rfl) (hK : X.K = K := by rfl) :
    FN X G E (.ListComp elt [⟨tg, iter, ifs, 0⟩] scope pos) (tLc (fun σ H R => iList K te σ H R ∨ iTup K te σ H R) g tt t0 (own.map (·.2))) (mLcX f fg ft fe (own.map (·.2))) := by
  subst hK
  exact ⟨pe_lc hc hN (pi_or (pi_list hi.pe) (pi_tup hi.pe)) ok (fun s H C cl fp => (hg s H C cl fp).pe) (fun s H C cl fp => (ht s H C cl fp).pe) (fun s H C cl fp => (he s H C cl fp).pe) hs,
   sim_lcX hi.sim (hg X.s_0 X.H_0 0 [] []).sim (ht X.s_0 X.H_0 0 [] []).sim (he X.s_0 X.H_0 0 [] []).sim⟩
end
end Mir
set_option maxHeartbeats 4000000
namespace Mir
open PySem PySem.Spec PyProof.Rows L2
section
variable {K : PySem.W.Frag} {mg : Str → Option Value} {G : Wd} {E : EK}
end
section
variable {X : Cx} {G : Wd} {E : EK}
end
end Mir
set_option maxHeartbeats 4000000
namespace Mir
open PySem PySem.Spec PyProof.Rows L2
end Mir
set_option maxHeartbeats 4000000
namespace Mir
open PySem PySem.Spec PyProof.Rows L2
section
variable {K : PySem.W.Frag} {mg : Str → Option Value} {E : XK}
end
end Mir
set_option maxHeartbeats 4000000
namespace Mir
open PySem PySem.Spec PyProof.Rows L2
section
variable {X : Cx} {K : PySem.W.Frag} {mg : Str → Option Value} {G : Wd} {E : EK}
end
end Mir
set_option maxHeartbeats 4000000
namespace Mir
open PySem PySem.Spec PyProof.Rows L2
open PySem.W (EachIs AllAlike Sortable dataLe alike SortsAt dataKind)
end Mir
set_option maxHeartbeats 4000000
namespace Mir
open PySem PySem.Spec PyProof.Rows L2
/-- class, names and values of an instance in the store -/
def lookI : PV → Store → Option (Str × List Str × List PV)
  | .obj n, S => (match S[n]? with
    | some (.ins c ns xs) => some (c, ns, xs)
    | _ => none)
  | _, _ => none
def fldO (c f : Str) (x : PV) (S : Store) : Res PV := match lookI x S with
  | some (c', ns, xs) => if c' = c then (match (ns.zip xs).lookup f with
    | some y => .ok y S
    | none => .bad) else .bad
  | none => .bad
def mFldO (c f : Str) (fe : Rho → Store → Res PV) : Rho → Store → Res PV := fun ρ S => (fe ρ S).bind (fldO c f)
section
variable {K : PySem.W.Frag} {mg : Str → Option Value} {G : Wd} {E : EK} {E1 : XK}
def putNs (f : Str) : List Str → List Str
  | [] => [f]
  | g :: r => if g = f then g :: r else g :: putNs f r
def putVs {α : Type} (f : Str) : List Str → List α → α → List α
  | g :: r, x :: xs, v => if g = f then v :: xs else x :: putVs f r xs v
  | _, _, v => [v]
def putI (c f : Str) (a z : PV) (ρ : Rho) (S : Store) : Res Out := match lookI a S with
  | some (c', ns, xs) => if c' = c ∧ ns.length < 1000 then .ok (.nx ρ) (setS a (.ins c (putNs f ns) (putVs f ns xs z)) S) else .bad
  | none => .bad
def mFldPut (c f : Str) (fo fe : Rho → Store → Res PV) : Rho → Store → Res Out := fun ρ S => (fe ρ S).bind fun z S1 => (fo ρ S1).bind fun a S2 => putI c f a z ρ S2
def mMakeO (c : Str) (n : Nat) (m : List PV → Store → Res PV) (fa : Rho → Store → Res (List PV)) : Rho → Store → Res PV := fun ρ S => (fa ρ S).bind fun xs S1 => if xs.length + 1 = n then (m (.obj S1.length :: xs) (S1 ++ [.ins c [] []])).bind fun y S2 => (match y with
  | .non => .ok (.obj S1.length) S2
  | _ => .bad) else .bad
end
section
variable {P : Program} {w : World} {K : PySem.W.Frag} {mg : Str → Option Value} {base : Heap} {X : Cx} {G : Wd} {E : EK} {E1 : XK} {k : Nat} {c mn : Str} {f : Addr} {fd : FuncData} {ps : List Str} {m : List PV → Store → Res PV}
end
end Mir
set_option maxHeartbeats 4000000
namespace RZ
open PySem PySem.Spec PyProof.Rows L2
/-- the tuples at a, b and c as they stand at each turn, the items in new triples -/
def ItzT3 (K : PySem.W.Frag) (a b c : Addr) (m1 m2 m3 : Nat) : It :=
  ⟨fun i H => ∃ (xs ys zs : List V) (x y z : V), SqT K H a xs ∧ SqT K H b ys ∧ SqT K H c zs ∧ xs.length = m1 ∧ ys.length = m2 ∧ zs.length = m3 ∧ xs[i]? = some x ∧ ys[i]? = some y ∧ zs[i]? = some z,
    fun i H v H' => ∃ T x y z, v = .ref T ∧ H T = none ∧ H' = upd H T (.tup [x, y, z]) ∧ (∀ xs, SqT K H a xs → xs[i]? = some x) ∧ (∀ ys, SqT K H b ys → ys[i]? = some y) ∧ ∀ zs, SqT K H c zs → zs[i]? = some z,
    fun i H => ∃ xs ys zs : List V, SqT K H a xs ∧ SqT K H b ys ∧ SqT K H c zs ∧ xs.length = m1 ∧ ys.length = m2 ∧ zs.length = m3 ∧ (m1 ≤ i ∨ m2 ≤ i ∨ m3 ≤ i)⟩
theorem turn_zip3T {P : Program} {w : World} {K : PySem.W.Frag} {elts : List Expr} {kk : Nat} {tpos : Pos} {a b c z TI TO i1 i2 i3 : Addr} {m1 m2 m3 : Nat} (D : ZipSep3 z TI TO i1 i2 i3 [i1, a] [i2, b] [i3, c]) (n1 : a ≠ i1) (n2 : b ≠ i2) (n3 : c ≠ i3) :
    Turn P w K (.Tuple elts kk tpos) (ItzT3 K a b c m1 m2 m3) [z, TI, TO, i1, i2, i3] z (fun i h => IsZip h z TI TO .none ∧ IsTupOf3 h TI (.ref i1) (.ref i2) (.ref i3) ∧ (∃ x y u, IsTupOf3 h TO x y u) ∧ h.IsTupleIter i1 a i ∧ h.IsTupleIter i2 b i ∧ h.IsTupleIter i3 c i ∧ i ≤ m1 ∧ i ≤ m2 ∧ i ≤ m3) where
  mem := by simp
  obj := fun i h st c hc => by
    obtain ⟨hz, hTI, ⟨x, y, u, hTO⟩, ⟨o1, e1, _, d1⟩, ⟨o2, e2, _, d2⟩, ⟨o3, e3, _, d3⟩, _⟩ := st
    have e' : c = z ∨ c = TI ∨ c = TO ∨ c = i1 ∨ c = i2 ∨ c = i3 := by simpa using hc
    rcases e' with q | q | q | q | q | q
    · rw [q]; exact ⟨_, hz, fun v q => nomatch q⟩
    · rw [q]; exact ⟨_, hTI, fun v q => nomatch q⟩
    · rw [q]; exact ⟨_, hTO, fun v q => nomatch q⟩
    · rw [q]; exact ⟨o1, e1, fun v q => by rw [d1] at q; cases q⟩
    · rw [q]; exact ⟨o2, e2, fun v q => by rw [d2] at q; cases q⟩
    · rw [q]; exact ⟨o3, e3, fun v q => by rw [d3] at q; cases q⟩
  keep := fun i h h' st k => by
    obtain ⟨hz, hTI, ⟨x, y, u, hTO⟩, h1, h2, h3, hb⟩ := st
    exact ⟨k z (by simp) _ hz, k TI (by simp) _ hTI, ⟨x, y, u, k TO (by simp) _ hTO⟩, h1.at fun o q => k i1 (by simp) o q, h2.at fun o q => k i2 (by simp) o q, h3.at fun o q => k i3 (by simp) o q, hb⟩
  item := by
    intro X hP hw hK hc i pins s σ H E I hf st hg
    subst hP hw hK
    obtain ⟨hz, hTI, ⟨x0, y0, u0, hTO⟩, h1, h2, h3, b1, b2, b3⟩ := st
    obtain ⟨xs, ys, zs, x, y, v, hqx, hqy, hqz, r1, r2, r3, hx, hy, hv⟩ := hg
    obtain ⟨its, rv, p, _⟩ := I.tuple hqx
    obtain ⟨its2, rv2, p2, _⟩ := I.tuple hqy
    obtain ⟨its3, rv3, p3, _⟩ := I.tuple hqz
    obtain ⟨u, hu, ru⟩ := rv.get hx
    obtain ⟨u2, hu2, ru2⟩ := rv2.get hy
    obtain ⟨u3, hu3, ru3⟩ := rv3.get hv
    have hzl : z < s.heap.objs.size := Heap.lt_size hz
    have hh : X.A.in1.handled = none := I.ok.hd hc
    have l1 : i < its.toArray.size := by rw [List.size_toArray]; exact (List.getElem?_eq_some_iff.mp hu).1
    have l2 : i < its2.toArray.size := by rw [List.size_toArray]; exact (List.getElem?_eq_some_iff.mp hu2).1
    have l3 : i < its3.toArray.size := by rw [List.size_toArray]; exact (List.getElem?_eq_some_iff.mp hu3).1
    refine wpAny_pyNext_zipD3_item D (Draws.tuple hh i1 a n1 its.toArray) (Draws.tuple hh i2 b n2 its2.toArray) (Draws.tuple hh i3 c n3 its3.toArray) hz hTI hTO ⟨h1, p⟩ ⟨h2, p2⟩ ⟨h3, p3⟩ l1 l2 l3 fun w1 w2 w3 h' tk q1 q2 q3 z' TO' s1' s2' s3' hT hsz hk => ?_
    have w1e : w1 = u := by simpa [hu, eq_comm] using q1
    have w2e : w2 = u2 := by simpa [hu2, eq_comm] using q2
    have w3e : w3 = u3 := by simpa [hu3, eq_comm] using q3
    subst w1e w2e w3e
    obtain ⟨h1', _⟩ := s1'
    obtain ⟨h2', _⟩ := s2'
    obtain ⟨h3', _⟩ := s3'
    refine ⟨_, rfl, wpAny_letOwnedTupleGo_zip (s := { s with heap := h', toks := tk }) z' fun h'' z'' sb => ?_⟩
    have hT2 : h''.get? s.heap.objs.size = some { cls := .type "tuple", data := .seq #[w1, w2, w3] } := (sb.2 _ (Nat.ne_of_gt hzl)).trans hT
    have new : ObjOk X.prog X.w (upd H s.heap.objs.size (.tup [x, y, v])) h'' s.heap.objs.size (.tup [x, y, v]) :=
      ⟨by show 3 ≤ sizeLine; decide, [w1, w2, w3], .cons ru (.cons ru2 (.cons ru3 .nil)), ⟨_, hT2, rfl, _, rfl⟩⟩
    have I1 : Inv X pins σ (upd H s.heap.objs.size (.tup [x, y, v])) { s with heap := h'', toks := tk } :=
      I.turnedNew (t' := tk) (ch := [z, TI, TO, i1, i2, i3]) (fun c o hb q => (sb.2 c (fun q' => hb (by simp [q']))).trans (hk c o (fun q' => hb (by simp [q'])) (fun q' => hb (by simp [q'])) (fun q' => hb (by simp [q'])) (fun q' => hb (by simp [q'])) (fun q' => hb (by simp [q'])) q)) hf (Nat.le_refl _) new
    refine ⟨.ref s.heap.objs.size, _, I1, rfl, ⟨_, x, y, v, rfl, I.hok.fresh (Nat.le_refl _), rfl, fun l hl => by rw [I.tuple_inj hl hqx]; exact hx, fun l hl => by rw [I.tuple_inj hl hqy]; exact hy, fun l hl => by rw [I.tuple_inj hl hqz]; exact hv⟩, ⟨z'', ?_, ⟨w1, w2, w3, ?_⟩, ?_, ?_, ?_, ?_, ?_, ?_⟩, fun c hcm => ?_⟩
    · exact (sb.2 _ D.TIz).trans (hk _ _ D.TIz D.TITO D.TIi1 D.TIi2 D.TIi3 hTI)
    · exact (sb.2 _ D.TOz).trans TO'
    · exact h1'.at fun o q => (sb.2 _ D.zi1.symm).trans q
    · exact h2'.at fun o q => (sb.2 _ D.zi2.symm).trans q
    · exact h3'.at fun o q => (sb.2 _ D.zi3.symm).trans q
    · have := (List.getElem?_eq_some_iff.mp hx).1; omega
    · have := (List.getElem?_eq_some_iff.mp hy).1; omega
    · have := (List.getElem?_eq_some_iff.mp hv).1; omega
    · have hlt : c < s.heap.objs.size := by
        have e' : c = z ∨ c = TI ∨ c = TO ∨ c = i1 ∨ c = i2 ∨ c = i3 := by simpa using hcm
        rcases e' with q | q | q | q | q | q
        · rw [q]; exact hzl
        · rw [q]; exact Heap.lt_size hTI
        · rw [q]; exact Heap.lt_size hTO
        · rw [q]; obtain ⟨_, e1, _⟩ := h1; exact Heap.lt_size e1
        · rw [q]; obtain ⟨_, e2, _⟩ := h2; exact Heap.lt_size e2
        · rw [q]; obtain ⟨_, e3, _⟩ := h3; exact Heap.lt_size e3
      rw [upd_ne (Nat.ne_of_lt hlt)]
      exact (hf c hcm).1
  done := by
    intro X hP hw hK hc i pins s σ H E I hf st hg
    subst hP hw hK
    obtain ⟨hz, hTI, ⟨x0, y0, u0, hTO⟩, h1, h2, h3, b1, b2, b3⟩ := st
    obtain ⟨xs, ys, zs, hqx, hqy, hqz, g1, g2, g3, hend⟩ := hg
    obtain ⟨its, rv, p, _⟩ := I.tuple hqx
    obtain ⟨its2, rv2, p2, _⟩ := I.tuple hqy
    obtain ⟨its3, rv3, p3, _⟩ := I.tuple hqz
    have l1 : its.toArray.size = xs.length := by rw [List.size_toArray, rv.length]
    have l2 : its2.toArray.size = ys.length := by rw [List.size_toArray, rv2.length]
    have l3 : its3.toArray.size = zs.length := by rw [List.size_toArray, rv3.length]
    have hh : X.A.in1.handled = none := I.ok.hd hc
    exact wpAny_pyNext_zipD3_end D (Draws.tuple hh i1 a n1 its.toArray) (Draws.tuple hh i2 b n2 its2.toArray) (Draws.tuple hh i3 c n3 its3.toArray) hz hTI hTO ⟨h1, p⟩ ⟨h2, p2⟩ ⟨h3, p3⟩ (by omega) (by omega) (by omega) (by omega) fun h' tk hk => ⟨rfl, I.turnedL (t' := tk) (ch := [z, TI, TO, i1, i2, i3]) (fun c o hb q =>
      hk c o (fun q' => hb (by simp [q'])) (fun q' => hb (by simp [q'])) (fun q' => hb (by simp [q'])) (fun q' => hb (by simp [q'])) (fun q' => hb (by simp [q'])) q) hf⟩
  self := fun A i s Q E st h => wpAny_pyIter_zip st.1 h
def iZip3 (K : PySem.W.Frag) (ta : TA) : TI := fun σ H R => ta σ H fun vs H1 => ∃ a b c xs ys zs, vs = [.ref a, .ref b, .ref c] ∧ SqT K H1 a xs ∧ SqT K H1 b ys ∧ SqT K H1 c zs ∧ R (ItzT3 K a b c xs.length ys.length zs.length) H1
theorem pi_zip3 {X : Cx} {e e2 e3 : Expr} {ta : TA} {p pos tpos : Pos} {elts : List Expr} {kk : Nat} (hg : Gl X "zip") (hm : X.mg "zip" = none) (ha : PA X [e, e2, e3] ta)
    (hs : starEach [e, e2, e3] X.env = (false, eval e X.env) :: starEach [e2, e3] X.env := by rfl) (hpl : (backTo pos (starEach [e2, e3] X.env)).any (·.1) = false := by rfl) :
    PI X (.Tuple elts kk tpos) (.Call (.Name "zip" p) [e, e2, e3] [] pos) (iZip3 X.K ta) := by
  refine ⟨fun pins s σ H R I h => ?_⟩
  refine Call_ (ld_blt I hg hm PyProof.Rows.boot_zip (PyProof.Rows.callWith_type1 (thn (ha.run pos pins s σ H _ I h) fun us s1 ⟨vs, H1, I1, r1, q1⟩ => ?_) hs hpl))
  obtain ⟨a, b, c, xs, ys, zs, ex, hqx, hqy, hqz, q⟩ := q1
  subst ex
  cases r1 with
  | cons r rr =>
    cases rr with
    | cons r' rr =>
      cases rr with
      | cons r'' rr =>
        cases rr
        cases r
        cases r'
        cases r''
        obtain ⟨its, rv, p1, _⟩ := I1.tuple hqx
        obtain ⟨its2, rv2, p2, _⟩ := I1.tuple hqy
        obtain ⟨its3, rv3, p3, _⟩ := I1.tuple hqz
        obtain ⟨o1, ho1, _⟩ := id p1
        obtain ⟨o2, ho2, _⟩ := id p2
        obtain ⟨o3, ho3, _⟩ := id p3
        have la := Heap.lt_size ho1
        have lb := Heap.lt_size ho2
        have lc := Heap.lt_size ho3
        refine zip_begins3 (begins_tuple a its.toArray) (begins_tuple b its2.toArray) (begins_tuple c its3.toArray) p1 p2 p3 fun h' hz hTI hTO h1 h2 h3 hsz hk => wpAny_pyIter_zip hz ?_
        have I2 : Inv X pins σ H1 { s1 with heap := h' } := I1.kept (t' := s1.toks) hk
        have S := zip_sep3 (N := s1.heap.objs.size) (fp1 := [a]) (fp2 := [b]) (fp3 := [c]) (by simpa using la) (by simpa using lb) (by simpa using lc)
        refine ⟨s1.heap.objs.size + 5, [s1.heap.objs.size + 5, s1.heap.objs.size + 3, s1.heap.objs.size + 4, s1.heap.objs.size, s1.heap.objs.size + 1, s1.heap.objs.size + 2], _, _, H1, rfl, I2, turn_zip3T S (Nat.ne_of_lt la) (Nat.ne_of_lt (Nat.lt_succ_of_lt lb)) (Nat.ne_of_lt (Nat.lt_succ_of_lt (Nat.lt_succ_of_lt lc))), ⟨hz, hTI, ⟨_, _, _, hTO⟩, ⟨_, h1, rfl, rfl⟩, ⟨_, h2, rfl, rfl⟩, ⟨_, h3, rfl, rfl⟩, Nat.zero_le _, Nat.zero_le _, Nat.zero_le _⟩, fun c hcm => ?_, q⟩
        have e' : c = s1.heap.objs.size + 5 ∨ c = s1.heap.objs.size + 3 ∨ c = s1.heap.objs.size + 4 ∨ c = s1.heap.objs.size ∨ c = s1.heap.objs.size + 1 ∨ c = s1.heap.objs.size + 2 := by simpa using hcm
        have hle : s1.heap.objs.size ≤ c := by
          rcases e' with z | z | z | z | z | z <;> rw [z] <;> first | exact Nat.le_refl _ | exact Nat.le_add_right _ _
        exact I1.fpOk hle (I1.hok.fresh hle)
end RZ
namespace Mir
open PySem PySem.Spec PyProof.Rows L2
def zip3P : List PV → List PV → List PV → List PV
  | x :: xs, y :: ys, z :: zs => .tup [x, y, z] :: zip3P xs ys zs
  | _, _, _ => []
theorem zip3P_get : ∀ {xs ys zs : List PV} {j : Nat} {t : PV}, (zip3P xs ys zs)[j]? = some t → ∃ x y z, xs[j]? = some x ∧ ys[j]? = some y ∧ zs[j]? = some z ∧ t = .tup [x, y, z]
  | [], _, _, _, _, h => by simp [zip3P] at h
  | _ :: _, [], _, _, _, h => by simp [zip3P] at h
  | _ :: _, _ :: _, [], _, _, h => by simp [zip3P] at h
  | x :: xs, y :: ys, z :: zs, 0, t, h => by
    simp [zip3P] at h
    exact ⟨x, y, z, rfl, rfl, rfl, h.symm⟩
  | x :: xs, y :: ys, z :: zs, j + 1, t, h => by
    have h : (zip3P xs ys zs)[j]? = some t := h
    obtain ⟨a, b, c, h1, h2, h3, h4⟩ := zip3P_get h
    exact ⟨a, b, c, h1, h2, h3, h4⟩
theorem zip3P_len : ∀ {xs ys zs : List PV}, (zip3P xs ys zs).length = min (min xs.length ys.length) zs.length
  | [], _, _ => by simp [zip3P]
  | _ :: _, [], _ => by simp [zip3P]
  | _ :: _, _ :: _, [] => by simp [zip3P]
  | x :: xs, y :: ys, z :: zs => by
    simp only [zip3P, List.length_cons, zip3P_len]
    omega
def gZip3 : List PV → Store → Res (List PV)
  | [.tup xs, .tup ys, .tup zs], S => .ok (zip3P xs ys zs) S
  | _, _ => .bad
theorem trip_put {K : PySem.W.Frag} {w : Wd} {T : Addr} {x y z : PV} {v u t : V} (k : WOk K w) (hT : w.H T = none) (rx : RV K w.L w.hc x v) (ry : RV K w.L w.hc y u) (rz : RV K w.L w.hc z t) : RV K (w.put T (.tup [v, u, t])).L (w.put T (.tup [v, u, t])).hc (.tup [x, y, z]) (.ref T) :=
  ⟨T, [v, u, t], rfl, .inl (.inl (put_at k hT)), RVs.cons (rx.mono (List.prefix_refl _) (put_ext hT)) (RVs.cons (ry.mono (List.prefix_refl _) (put_ext hT)) (RVs.cons (rz.mono (List.prefix_refl _) (put_ext hT)) rfl))⟩
section
variable {X : Cx} {G : Wd} {E : EK} (K : PySem.W.Frag)
theorem itok_zip3 {w1 : Wd} {a b c : Addr} {xs ys zs : List PV} {vs us ts : List V} (ha : SqT K w1.hc a vs) (r : RVs K w1.L w1.hc xs vs) (hb : SqT K w1.hc b us) (r2 : RVs K w1.L w1.hc ys us) (hc : SqT K w1.hc c ts) (r3 : RVs K w1.L w1.hc zs ts) : ItOk K w1 (RZ.ItzT3 K a b c vs.length us.length ts.length) (zip3P xs ys zs) := fun i w' s k => by
  have h1 : SqT K w'.H a vs := hc_sqT (sqT_mono s.ext ha)
  have h2 : SqT K w'.H b us := hc_sqT (sqT_mono s.ext hb)
  have h3 : SqT K w'.H c ts := hc_sqT (sqT_mono s.ext hc)
  refine ⟨fun x e => ?_, fun e => ⟨vs, us, ts, h1, h2, h3, rfl, rfl, rfl, by rw [r.len, r2.len, r3.len]; rw [zip3P_len] at e; omega⟩⟩
  obtain ⟨y, z, t, e1, e2, e0, rfl⟩ := zip3P_get e
  obtain ⟨v, g1, g2⟩ := (r.mono s.pre s.ext).get e1
  obtain ⟨u, g3, g4⟩ := (r2.mono s.pre s.ext).get e2
  obtain ⟨o, g5, g6⟩ := (r3.mono s.pre s.ext).get e0
  refine ⟨⟨vs, us, ts, v, u, o, h1, h2, h3, rfl, rfl, rfl, g1, g3, g5⟩, fun q H' hy => ?_⟩
  obtain ⟨T, p1, p2, p3, rfl, hT, rfl, q1, q2, q3⟩ := hy
  have e3 := q1 vs h1
  have e4 := q2 us h2
  have e5 := q3 ts h3
  rw [g1] at e3
  rw [g3] at e4
  rw [g5] at e5
  cases e3
  cases e4
  cases e5
  exact ⟨w'.put T (.tup [v, u, o]), rfl, rfl, put_step k hT, put_ok k hT, trip_put k hT g2 g4 g6⟩
theorem sim_zip3 {K : PySem.W.Frag} {mg ta fa} (h : ASim K mg G E ta fa) : ISim K mg G E (RZ.iZip3 K ta) (mRange gZip3 fa) := fun w ρ σ R I q => by
  refine h w ρ σ _ I (Good.imp (Good.bind1 q) (fun xs S1 h1 => ?_) fun _ _ _ h => h)
  intro w1 vs e1 s1 k1 r1
  match xs, h1, r1 with
  | [.tup xs, .tup ys, .tup zs], h1, r1 =>
    obtain ⟨v, r0, rfl, ⟨a, us, rfl, r2, r3⟩, r8⟩ := r1
    obtain ⟨u, t, rfl, ⟨b, os, rfl, r4, r5⟩, c, ts, rfl, r6, r7⟩ := vs2 K r8
    exact ⟨a, b, c, us, os, ts, rfl, hc_sqT r2, hc_sqT r4, hc_sqT r6, h1 w1 _ e1 s1 k1 (itok_zip3 K r2 r3 r4 r5 r6 r7)⟩
theorem fit_zip3 {e e2 e3 : Expr} {p pos tpos : Pos} {elts : List Expr} {kk : Nat} {ta fa} (hm : X.mg "zip" = none) (ha : FA X G E [e, e2, e3] ta fa) (hK : X.K = K := by rfl) (hg : Gl X "zip" := by rfl) (hs : starEach [e, e2, e3] X.env = (false, eval e X.env) :: starEach [e2, e3] X.env := by rfl) (hpl : (backTo pos (starEach [e2, e3] X.env)).any (·.1) = false := by rfl) :
    FIt X G E (.Tuple elts kk tpos) (.Call (.Name "zip" p) [e, e2, e3] [] pos) (RZ.iZip3 K ta) (mRange gZip3 fa) := by
  subst hK
  exact ⟨RZ.pi_zip3 hg hm ha.pe hs hpl, sim_zip3 ha.sim⟩
end
end Mir
set_option maxHeartbeats 4000000
namespace PySem
open Sem (wp)
section
variable {prog : Program} {w : World} {A : Around} {E : Value → Shared → Prop} {s : Shared}
end
end PySem
namespace L2
open PySem PySem.Spec PyProof.Rows
end L2
namespace Mir
open PySem PySem.Spec PyProof.Rows L2
/-- n - 1 .. 0 -/
def rvP (n : Nat) : List PV := (List.range n).map fun (k : Nat) => PV.int ((n : Int) - 1 - k)
def lstRv : PV → Store → Res SO
  | .int n, S => if 0 ≤ n ∧ n ≤ 100000 then .ok (.lst (rvP n.toNat)) S else .bad
  | _, _ => .bad
def mListRv (f : Rho → Store → Res PV) : Rho → Store → Res SO := fun ρ S => (f ρ S).bind lstRv
section
variable {X : Cx} {K : PySem.W.Frag} {mg : Str → Option Value} {G : Wd} {E : EK}
end
end Mir
set_option maxHeartbeats 4000000
namespace Mir
open PySem PySem.Spec PyProof.Rows L2
def unpt : PV → PV
  | .pt xs => .tup xs
  | x => x
theorem rv_unpt {K : PySem.W.Frag} {L : List Addr} {Hc : Hp} {x : PV} {v : V} (r : RV K L Hc x v) : RV K L Hc (unpt x) v := by
  cases x <;> first | exact r | skip
  obtain ⟨a, vs, h1, h2, h3⟩ := r
  exact ⟨a, vs, h1, plT_sqT h2, h3⟩
def mAsT (f : Rho → Store → Res PV) : Rho → Store → Res PV := fun ρ S => (f ρ S).bind fun x S1 => .ok (unpt x) S1
theorem sim_asT {K : PySem.W.Frag} {mg : Str → Option Value} {G : Wd} {E : EK} {t : TE} {f} (h : ESim K mg G E t f) : ESim K mg G E t (mAsT f) := fun w ρ σ Q I q => by
  refine h w ρ σ _ I (Good.imp (Good.bind1 q) (fun x S1 h1 => ?_) fun _ _ _ h => h)
  intro w1 v e1 s1 k1 r1
  exact h1 w1 v e1 s1 k1 (rv_unpt r1)
theorem fe_asT {X : Cx} {G : Wd} {E : EK} {e : Expr} {t : TE} {f} (h : FE X G E e t f) : FE X G E e t (mAsT f) := ⟨h.pe, sim_asT h.sim⟩
end Mir
set_option maxHeartbeats 4000000
namespace Mir
open PySem PySem.Spec PyProof.Rows L2
section
variable {X : Cx} {G : Wd} {E : EK} (K : PySem.W.Frag)
end
end Mir
set_option maxHeartbeats 4000000
namespace Mir
open PySem PySem.Spec PyProof.Rows L2
end Mir
set_option maxHeartbeats 4000000
namespace Mir
open PySem PySem.Spec PyProof.Rows L2
section
variable {X : Cx} {G : Wd} {E : EK} {E1 : XK}
end
end Mir
set_option maxHeartbeats 4000000
namespace Mir
open PySem PySem.Spec PyProof.Rows L2
section
variable {X : Cx} {G : Wd} {E : EK}
end
end Mir
set_option maxHeartbeats 4000000
namespace Mir
open PySem PySem.Spec PyProof.Rows L2
end Mir
set_option maxHeartbeats 4000000
namespace Mir
open PySem PySem.Spec PyProof.Rows L2
section
variable {X : Cx} {G : Wd} {E : EK}
end
end Mir
set_option maxHeartbeats 4000000
namespace RZ
open PySem PySem.Spec PyProof.Rows L2
end RZ
namespace Mir
open PySem PySem.Spec PyProof.Rows L2
section
variable {X : Cx} {G : Wd} {E : EK} (K : PySem.W.Frag)
end
end Mir
set_option maxHeartbeats 400000
namespace Mir
open PySem PySem.Spec PyProof.Rows L2 PySem.Calls
open PySem.W (EachIs AllAlike Sortable dataLe alike)
def pvLen : PV → Option PyData
  | .tup xs => some (.int (xs.length : Int))
  | .pt xs => some (.int (xs.length : Int))
  | _ => none
def pvLens : List PV → Option (List PyData)
  | [] => some []
  | x :: xs => match pvLen x, pvLens xs with
    | some d, some ds => some (d :: ds)
    | _, _ => none
def gSortLen : List PV → Store → Res SO
  | [.lst xs], S => match pvLens xs with
    | some ds => if xs.length ≤ sizeM then .ok (.lst (sortD xs ds)) S else .bad
    | none => .bad
  | _, _ => .bad
def rSortLen (K : PySem.W.Frag) : List V → Hp → VK → Prop := fun vs H Q => ∃ (a : Addr) (zs : List (V × PyData)), vs = [V.ref a] ∧ SqL K H a (zs.map Prod.fst) ∧ zs.length ≤ sizeLine ∧
  (∀ z ∈ zs, ∃ b xs, z.1 = V.ref b ∧ SqT K H b xs ∧ z.2 = .int (xs.length : Int)) ∧ ∀ p, H p = none → Q (.ref p) (upd H p (.lst ((zs.mergeSort (dataLe false Prod.snd)).map Prod.fst)))
def LenRel (s : Shared) (u : Value) (z : V × PyData) : Prop := RelV z.1 u ∧ ∃ (b : Addr) (its : Array Value), u = .ref b ∧ IsTup s.heap b its ∧ its.size ≤ sizeLine ∧ z.2 = .int (its.size : Int)
theorem each_len {X : Cx} {pins : List (Addr × Obj)} {σ : L2.St} {H : Hp} {s : Shared} (I : Inv X pins σ H s) : ∀ {zs : List (V × PyData)} {us : List Value}, (∀ z ∈ zs, ∃ b xs, z.1 = V.ref b ∧ SqT X.K H b xs ∧ z.2 = .int (xs.length : Int)) → EachIs (fun u z => RelV z.1 u) us zs → EachIs (LenRel s) us zs
  | _, _, _, .nil => .nil
  | z :: zs, u :: us, hd, .cons h t => by
    obtain ⟨b, xs, e1, hs, e2⟩ := hd z List.mem_cons_self
    obtain ⟨its, rv, pl, hz⟩ := I.tuple hs
    have hlen := rv.length
    have h' := h
    rw [e1] at h'
    cases h'
    exact .cons ⟨h, b, its.toArray, rfl, pl, by simp only [List.size_toArray]; omega, by rw [e2]; simp only [List.size_toArray]; rw [hlen]⟩ (each_len I (fun z hz => hd z (List.mem_cons_of_mem _ hz)) t)
theorem run_sortLen {X : Cx} (hu : X.A.units + 200 < cLine) {pins : List (Addr × Obj)} {s : Shared} {σ : L2.St} {H : Hp} {vs : List V} {us : List Value} {Q : VK} (I : Inv X pins σ H s) (r : Vals vs us) (h : rSortLen X.K vs H Q) :
    wpAny (model X.prog X.w) X.A (call (.builtin "sorted") us [(Str.ofString "key", .builtin "len")]) (EP X pins σ Q) X.xe s := by
  obtain ⟨a, zs, rfl, hs, hz, hl, q⟩ := h
  obtain ⟨its, rv, pl, hz'⟩ := I.list hs
  rw [Vals.ref1 r]
  have ea := each_len I hl (vals_each rv)
  refine PySem.W.sorted_key_data (b := false) (R := LenRel s) (Prod.snd : V × PyData → PyData) pl.isList ea (fun d h1 d' h2 => ?_) (.inr fun d h1 => ?_) hz (fun z hz => ?_) (PyProof.Rows.ksk_s1 _ _) (fun _ => PyProof.Rows.ksk_l1 _ _) (fun _ => PyProof.Rows.ksk_t4 _ _)
    (fun u z ⟨h1, b, ts, e1, h2, h3, h4⟩ _ h tk kp => ?_) fun out c h' tk kp fresh hD _ eo => ?_
  · obtain ⟨z, hz, rfl⟩ := List.mem_map.mp h1
    obtain ⟨z', hz', rfl⟩ := List.mem_map.mp h2
    obtain ⟨_, _, _, _, e⟩ := hl z hz
    obtain ⟨_, _, _, _, e'⟩ := hl z' hz'
    rw [e, e']
    rfl
  · obtain ⟨z, hz, rfl⟩ := List.mem_map.mp h1
    obtain ⟨_, _, _, _, e⟩ := hl z hz
    rw [e]
    exact ⟨(by intro h; cases h), (by intros; intro h; cases h)⟩
  · obtain ⟨_, _, _, _, e⟩ := hl z hz
    rw [e]
    show X.A.units + 2 + 0 < cLine
    omega
  · subst e1
    have hl := line63
    have hs : sizeLine = 16777216 := sizeLine_eq
    rw [h4]
    refine len_tuple (IsTup.keeps h2 kp) (by omega) ?_
    exact ⟨h, _, rfl, fun _ _ e => e, .int _ _⟩
  · have hn : H (s.heap.objs.size + 1) = none := I.hok.fresh (Nat.le_succ _)
    have e2 := each_vals (eo.mono fun _ _ x => x.1)
    have hlen : ((zs.mergeSort (dataLe false Prod.snd)).map Prod.fst).length ≤ sizeLine := by rw [List.length_map, List.length_mergeSort]; exact hz
    exact ⟨.ref _, upd H (s.heap.objs.size + 1) (.lst ((zs.mergeSort (dataLe false Prod.snd)).map Prod.fst)), I.laid (t' := tk) kp (Nat.le_succ _) ⟨hlen, out, c, e2, hD⟩, rfl, q _ hn⟩
theorem keeper_sorted {M : Model} (h : Heap) (_ : True) : ∃ k, (k = Keeper.frame ∨ k = Keeper.machine ∨ k = Keeper.boundFrame) ∧ PySem.W.Looks M h (keeperOf (.builtin "sorted")) k := ⟨Keeper.machine, .inr (.inl rfl), PySem.W.Looks.of_pure rfl⟩
section
variable {X : Cx} {G : Wd} {E : EK} {e : Expr} {p q pos kpos : Pos} {t : TA} {f : Rho → Store → Res (List PV)}
theorem pe_sortLen (hu : X.A.units + 200 < cLine) (hg : Gl X "sorted") (hm : X.mg "sorted" = none) (hg2 : Gl X "len") (hm2 : X.mg "len" = none) (ha : PA X [e] t)
    (he : starEach [e] X.env = (false, eval e X.env) :: starEach [] X.env := by rfl) (hall : (backToKw pos (keywordEach [⟨some "key", .Name "len" q, kpos⟩] X.env)).all (·.1.isSome) = true := by rfl) (hks : (backToKw pos (keywordEach [⟨some "key", .Name "len" q, kpos⟩] X.env)).filterMap (·.1) = [Str.ofString "key"] := by rfl)
    (hpl : ((backTo pos (starEach [e] X.env)).any (·.1) || (backToKw pos (keywordEach [⟨some "key", .Name "len" q, kpos⟩] X.env)).any (·.1.isNone)) = false := by rfl) :
    PE X (.Call (.Name "sorted" p) [e] [⟨some "key", .Name "len" q, kpos⟩] pos) (tCB (rSortLen X.K) t) := by
  refine ⟨fun pins s σ H Q I h => ?_⟩
  refine wpAny_Call_Name_kw (ld_blt (u := .builtin "sorted") I hg hm (by decide +kernel) ?_)
  refine PySem.W.callWith_of hpl keeper_sorted (PyProof.Rows.evalArgs_kw2 hall (thn (ha.run pos pins s σ H _ I h) fun us s1 ⟨vs, H1, I1, r, q⟩ => ?_) he)
  show wpAny _ _ (evalAll [(do let v ← eval (.Name "len" _) X.env; standAt pos; pure v)]) _ _ s1
  refine wpAny_evalAll_cons (wpAny_bind (ld_blt (u := .builtin "len") I1 hg2 hm2 (by decide +kernel) (wpAny_bind (wpAny_standAt (wpAny_pure (wpAny_evalAll_nil ⟨trivial, ?_⟩))))))
  rw [hks]
  exact run_sortLen hu I1 r q
end
theorem three_lens {K : PySem.W.Frag} {L : List Addr} {Hc : Hp} : ∀ {xs : List PV} {ds : List PyData} {vs : List V}, pvLens xs = some ds → RVs K L Hc xs vs → ∃ ts : List ((PV × V) × PyData), ts.map (fun t => (t.1.1, t.2)) = xs.zip ds ∧ ts.map (fun t => (t.1.2, t.2)) = vs.zip ds ∧ ts.map (fun t => t.1.2) = vs ∧ ts.map (fun t => t.2) = ds ∧ ∀ t ∈ ts, RV K L Hc t.1.1 t.1.2 ∧ pvLen t.1.1 = some t.2
  | [], ds, vs, h, r => by
    simp only [pvLens] at h; cases h
    have r : vs = [] := r
    subst r
    exact ⟨[], rfl, rfl, rfl, rfl, fun _ m => by cases m⟩
  | x :: xs, ds, vs, h, r => by
    simp only [pvLens] at h
    split at h
    · rename_i d ds e1 e2
      cases h
      obtain ⟨v, us, rfl, r1, r2⟩ := r
      obtain ⟨ts, a1, a2, a3, a4, a5⟩ := three_lens e2 r2
      refine ⟨((x, v), d) :: ts, by rw [List.map_cons, a1]; rfl, by rw [List.map_cons, a2]; rfl, by rw [List.map_cons, a3], by rw [List.map_cons, a4], fun t ht => ?_⟩
      rcases List.mem_cons.mp ht with rfl | ht
      · exact ⟨r1, e1⟩
      · exact a5 t ht
    · cases h
theorem pvLen_tup {K : PySem.W.Frag} {w : Wd} {x : PV} {v : V} {d : PyData} (h : pvLen x = some d) (r : RV K w.L w.hc x v) : ∃ b xs, v = V.ref b ∧ SqT K w.H b xs ∧ d = .int (xs.length : Int) := by
  cases x with
  | tup xs =>
    cases h
    obtain ⟨a, us, rfl, r1, r2⟩ := r
    exact ⟨a, us, rfl, hc_sqT r1, by rw [r2.len]⟩
  | pt xs =>
    cases h
    obtain ⟨a, us, rfl, r1, r2⟩ := r
    exact ⟨a, us, rfl, hc_sqT (plT_sqT r1), by rw [r2.len]⟩
  | _ => cases h
theorem ra_sortLen {K : PySem.W.Frag} {mg : Str → Option Value} {E : XK} : RAN K mg E (rSortLen K) gSortLen := fun w xs vs Q k r g => by
  match xs, g, r with
  | [.lst ys], g, r =>
    obtain ⟨v, rfl, a, us, rfl, r1, r2⟩ := vs1 r
    have g : Good (match pvLens ys with
      | some ds => if ys.length ≤ sizeM then .ok (.lst (sortD ys ds)) w.S else .bad
      | none => .bad) (PostN K w Q) (ExP K mg E w) := g
    cases e : pvLens ys with
    | none => rw [e] at g; exact g.elim
    | some ds =>
      rw [e] at g
      obtain ⟨hb, g⟩ := good_if g
      obtain ⟨ts, a1, a2, a3, a4, a5⟩ := three_lens e r2
      have c1 : (ts.map fun t => (t.1.2, t.2)).map Prod.fst = us := by rw [List.map_map]; exact a3
      have s1 : ((ts.mergeSort (dataLe false fun t => t.2)).map fun t => (t.1.1, t.2)) = (ts.map fun t => (t.1.1, t.2)).mergeSort (dataLe false Prod.snd) := List.map_mergeSort fun _ _ _ _ => rfl
      have s2 : ((ts.mergeSort (dataLe false fun t => t.2)).map fun t => (t.1.2, t.2)) = (ts.map fun t => (t.1.2, t.2)).mergeSort (dataLe false Prod.snd) := List.map_mergeSort fun _ _ _ _ => rfl
      refine ⟨a, ts.map fun t => (t.1.2, t.2), rfl, by rw [c1]; exact .inl (.inl (hc_lst r1)), ?_, fun z hz => ?_, fun p hp => ?_⟩
      · have h1 : ts.length = us.length := by rw [← a3, List.length_map]
        rw [List.length_map, h1, r2.len]
        exact sizeM_le hb
      · obtain ⟨t, ht, rfl⟩ := List.mem_map.mp hz
        obtain ⟨q1, q2⟩ := a5 t ht
        exact pvLen_tup q2 q1
      · have rr := rvs_map (K := K) (L := w.L) (Hc := w.hc) (ts := ts.mergeSort (dataLe false fun t => t.2)) fun t ht => (a5 t ((List.mergeSort_perm _ _).mem_iff.mp ht)).1
        have e1 : sortD ys ds = (ts.mergeSort (dataLe false fun t => t.2)).map fun t => t.1.1 := by
          unfold sortD
          rw [← a1, ← s1, List.map_map]
          rfl
        have e2 : ((ts.map fun t => (t.1.2, t.2)).mergeSort (dataLe false Prod.snd)).map Prod.fst = (ts.mergeSort (dataLe false fun t => t.2)).map fun t => t.1.2 := by
          rw [← s2, List.map_map]
          rfl
        rw [e1] at g
        rw [e2]
        exact post_lst k rfl rr g p hp
theorem fn_sortLen {X : Cx} {G : Wd} {E : EK} {p q pos kpos : Pos} {e t f} (hu : X.A.units + 200 < cLine) (hm : X.mg "sorted" = none) (hm2 : X.mg "len" = none) (ha : FA X G E [e] t f) (hg : Gl X "sorted" := by rfl) (hg2 : Gl X "len" := by rfl)
    (he : starEach [e] X.env = (false, eval e X.env) :: starEach [] X.env := by rfl) (hall : (backToKw pos (keywordEach [⟨some "key", .Name "len" q, kpos⟩] X.env)).all (·.1.isSome) = true := by rfl) (hks : (backToKw pos (keywordEach [⟨some "key", .Name "len" q, kpos⟩] X.env)).filterMap (·.1) = [Str.ofString "key"] := by rfl)
    (hpl : ((backTo pos (starEach [e] X.env)).any (·.1) || (backToKw pos (keywordEach [⟨some "key", .Name "len" q, kpos⟩] X.env)).any (·.1.isNone)) = false := by rfl) : FN X G E (.Call (.Name "sorted" p) [e] [⟨some "key", .Name "len" q, kpos⟩] pos) (tCB (rSortLen X.K) t) (mArgs gSortLen f) :=
  ⟨pe_sortLen hu hg hm hg2 hm2 ha.pe he hall hks hpl, sim_CBN ha.sim fun _ => ra_sortLen⟩
section
variable {K : PySem.W.Frag} {mg : Str → Option Value} {G : Wd} {E : EK} {X : Cx}
/-- o.extend(e), o a list of the store, e a list -/
def mExtE (fo fe : Rho → Store → Res PV) : Rho → Store → Res PV := fun ρ S => (fo ρ S).bind fun a S1 => if (lookL a S1).isSome = true then (fe ρ S1).bind fun y S2 => match lookL a S2, y with
  | some xs, .lst ys => if xs.length + ys.length ≤ sizeM then .ok .non (setS a (.lst (xs ++ ys)) S2) else .bad
  | _, _ => .bad else .bad
theorem sim_extE {to te fo fe} (ho : ESim K mg G E to fo) (he : ESim K mg G E te fe) : ESim K mg G E (tBM K "list" rExtend to (tCons te tNil)) (mExtE fo fe) := fun w ρ σ Q I q => by
  refine ho w ρ σ _ I (Good.imp (Good.bind1 q) (fun a S1 h1 => ?_) fun _ _ _ h => h)
  intro w1 v e1 s1 k1 r1
  subst e1
  obtain ⟨c, h1⟩ := good_if h1
  refine ⟨(tyL_of k1 r1 c).1, ?_⟩
  have ob := (tyL_of k1 r1 c).2
  refine he w1 ρ σ _ (I.step s1 k1) (Good.imp (Good.bind1 h1) (fun y S2 h2 => ?_) fun _ _ _ h => h.step s1 I.ok k1)
  intro w2 u e2 s2 k2 r2
  subst e2
  have s12 := s1.tr s2 I.ok k1
  have ra := r1.mono s2.pre (s2.ext k1.sub)
  show rExtend v [u] w2.H Q
  cases e : lookL a w2.S with
  | none => simp only [e] at h2; exact h2.elim
  | some xs =>
    simp only [e] at h2
    cases y <;> first | exact h2.elim | skip
    rename_i ys
    obtain ⟨hz, h2⟩ := good_if h2
    obtain ⟨n, p, vs, rfl, _, rfl, _, g1, g2⟩ := lookL_rv k2 ra e
    obtain ⟨b2, us, rfl, f1, f2⟩ := r2
    obtain ⟨w3, e3, eH, eL, s3, k3⟩ := obj_wr k2 ra ob (.lst (xs ++ ys)) (.lst (vs ++ us)) ⟨_, rfl, g2.append f2⟩
    refine ⟨p, b2, vs, us, rfl, rfl, g1, hc_lst f1, by rw [g2.len, f2.len]; exact sizeM_le hz, ?_⟩
    rw [← eH]
    exact h2 w3 .non e3 (s12.tr s3 I.ok k2) k3 rfl
theorem fe_extE (K : PySem.W.Frag) {o e : Expr} {pa pc : Pos} {to te fo fe} (ho : FE X G E o to fo) (he : FE X G E e te fe) (h : X.K = K := by rfl)
    (hbase : attributeBase o "extend" X.env (eval o X.env) = eval o X.env := by rfl)
    (hfew : ((backTo pc (starEach [e] X.env)).all (fun x => !x.1) && (backToKw pc (keywordEach [] X.env)).all (fun x => x.1.isSome) && decide ([e].length + ([] : List Keyword).length + (if ([] : List Keyword).isEmpty then 0 else 1) < 30)) = true := by rfl)
    (hline : (pa.endLine == pc.line) = true := by rfl) (hs : starEach [e] X.env = (false, eval e X.env) :: starEach [] X.env := by rfl) (hp : ((backTo pc (starEach [] X.env)).any fun x => x.1) = false := by rfl) :
    FE X G E (.Call (.Attribute o "extend" pa) [e] [] pc) (tBM K "list" rExtend to (tCons te tNil)) (mExtE fo fe) := by
  subst h
  exact ⟨pe_bm PySem.F.plainAttrs_list PySem.F.slot_list_extend PySem.F.type_list_extend mt_extend ho.pe (pa_cons he.pe pa_nil hs) hbase hfew hline hs hp, sim_extE ho.sim he.sim⟩
variable {fo fe : Rho → Store → Res PV} {ρ : Rho} {S : Store}
theorem ev_extE : mExtE fo fe ρ S = (fo ρ S).bind fun a S1 => if (lookL a S1).isSome = true then (fe ρ S1).bind fun y S2 => (match lookL a S2, y with
  | some xs, .lst ys => if xs.length + ys.length ≤ sizeM then .ok .non (setS a (.lst (xs ++ ys)) S2) else .bad
  | _, _ => .bad) else .bad := nrfl rfl
end
end Mir
set_option maxHeartbeats 4000000
namespace L2
open PySem PySem.Spec PyProof.Rows
theorem turnC3_0 (elt t0 i0 t1 i1 t2 i2 : Expr) (ifs0 ifs1 ifs2 : List Expr) (scope : Scope) (pos : Pos) (it acc : Value) (env : Env) :
    compTurn (.ListComp elt [⟨t0, i0, ifs0, 0⟩, ⟨t1, i1, ifs1, 0⟩, ⟨t2, i2, ifs2, 0⟩] scope pos) 0 it acc env = (do
      standAt i0.pos
      match ← pyNext it with
      | none => pure (.done .next)
      | some u =>
        letOwnedTupleGo t0 it u
        assign t0 env u
        let mut ok := true
        for c in ifs0 do
          if ok then ok ← isTrue c env (eval c env)
        if ok then
          let y ← eval i1 env
          standAt i1.pos
          let y ← foldedSetIterable i1 env y
          let _ ← runOwn (.compStart (.ListComp elt [⟨t0, i0, ifs0, 0⟩, ⟨t1, i1, ifs1, 0⟩, ⟨t2, i2, ifs2, 0⟩] scope pos) 1 (← holding [y] (pyIter y)) acc env) env
        again (.compLoop (.ListComp elt [⟨t0, i0, ifs0, 0⟩, ⟨t1, i1, ifs1, 0⟩, ⟨t2, i2, ifs2, 0⟩] scope pos) 0 it acc env)) := by rfl
theorem turnC3_1 (elt t0 i0 t1 i1 t2 i2 : Expr) (ifs0 ifs1 ifs2 : List Expr) (scope : Scope) (pos : Pos) (it acc : Value) (env : Env) :
    compTurn (.ListComp elt [⟨t0, i0, ifs0, 0⟩, ⟨t1, i1, ifs1, 0⟩, ⟨t2, i2, ifs2, 0⟩] scope pos) 1 it acc env = (do
      standAt i1.pos
      match ← pyNext it with
      | none => pure (.done .next)
      | some u =>
        letOwnedTupleGo t1 it u
        assign t1 env u
        let mut ok := true
        for c in ifs1 do
          if ok then ok ← isTrue c env (eval c env)
        if ok then
          let y ← eval i2 env
          standAt i2.pos
          let y ← foldedSetIterable i2 env y
          let _ ← runOwn (.compStart (.ListComp elt [⟨t0, i0, ifs0, 0⟩, ⟨t1, i1, ifs1, 0⟩, ⟨t2, i2, ifs2, 0⟩] scope pos) 2 (← holding [y] (pyIter y)) acc env) env
        again (.compLoop (.ListComp elt [⟨t0, i0, ifs0, 0⟩, ⟨t1, i1, ifs1, 0⟩, ⟨t2, i2, ifs2, 0⟩] scope pos) 1 it acc env)) := by rfl
theorem turnC3_2 (elt t0 i0 t1 i1 t2 i2 : Expr) (ifs0 ifs1 ifs2 : List Expr) (scope : Scope) (pos : Pos) (it acc : Value) (env : Env) :
    compTurn (.ListComp elt [⟨t0, i0, ifs0, 0⟩, ⟨t1, i1, ifs1, 0⟩, ⟨t2, i2, ifs2, 0⟩] scope pos) 2 it acc env = (do
      standAt i2.pos
      match ← pyNext it with
      | none => pure (.done .next)
      | some u =>
        letOwnedTupleGo t2 it u
        assign t2 env u
        let mut ok := true
        for c in ifs2 do
          if ok then ok ← isTrue c env (eval c env)
        if ok then
          (do let _ ← call (.builtin "list.append") [acc, ← eval elt env])
        again (.compLoop (.ListComp elt [⟨t0, i0, ifs0, 0⟩, ⟨t1, i1, ifs1, 0⟩, ⟨t2, i2, ifs2, 0⟩] scope pos) 2 it acc env)) := by rfl
section
variable {prog : Program} {w : World} {A : Around} {R : Result → Shared → Prop} {s : Shared} {elt t0 i0 t1 i1 t2 i2 : Expr} {ifs0 ifs1 ifs2 : List Expr} {scope : Scope} {pos : Pos} {it acc : Value} {env : Env}
theorem loopC3_0 (hs : ∀ y, foldedSetIterable i1 env y = pure y) (I : Nat → Shared → Prop)
    (turn : ∀ n s, I n s → wpAny (model prog w) A (pyNext it) (fun r z1 => match r with
      | none => R (.ok .next) z1
      | some u => wpAny (model prog w) A (letOwnedTupleGo t0 it u) (fun _ z2 => wpAny (model prog w) A (assign t0 env u) (fun _ z3 =>
          wpAny (model prog w) A (forIn ifs0 true fun c r => if r = true then do let ok ← isTrue c env (eval c env); pure (ForInStep.yield ok) else pure (ForInStep.yield r)) (fun ok z4 =>
            if ok = true then wpAny (model prog w) A (eval i1 env) (fun y z5 => wpAny (model prog w) A (pyIter y) (fun it1 z6 =>
              codeAny (model prog w) A (.compStart (.ListComp elt [⟨t0, i0, ifs0, 0⟩, ⟨t1, i1, ifs1, 0⟩, ⟨t2, i2, ifs2, 0⟩] scope pos) 1 it1 acc env) (fun r s' => match r with
                | .ok _ => ∃ m, m < n ∧ I m s'
                | .error _ => False) z6) (notedBy (model prog w) A env fun x s' => R (.error x) s') z5) (notedBy (model prog w) A env fun x s' => R (.error x) s') z4
            else ∃ m, m < n ∧ I m z4) (notedBy (model prog w) A env fun x s' => R (.error x) s') z3) (notedBy (model prog w) A env fun x s' => R (.error x) s') z2) (notedBy (model prog w) A env fun x s' => R (.error x) s') z1) (notedBy (model prog w) A env fun x s' => R (.error x) s') s)
    (n : Nat) (h : I n s) : codeAny (model prog w) A (.compLoop (.ListComp elt [⟨t0, i0, ifs0, 0⟩, ⟨t1, i1, ifs1, 0⟩, ⟨t2, i2, ifs2, 0⟩] scope pos) 0 it acc env) R s := by
  refine codeAny_loop rfl I (fun n s hI => ?_) n h
  show wpAny _ A ((compTurn (.ListComp elt [⟨t0, i0, ifs0, 0⟩, ⟨t1, i1, ifs1, 0⟩, ⟨t2, i2, ifs2, 0⟩] scope pos) 0 it acc env).onRaise (fun x => do noteFrame x env; theTreesLotGoes x)) _ _ s
  refine wpAny_noted ?_
  rw [turnC3_0]
  refine wpAny_bind (wpAny_standAt (wpAny_bind (wpAny_mono (turn n s hI) (fun r z1 g1 => ?_) fun _ _ g => g)))
  cases r with
  | none => exact wpAny_pure g1
  | some u =>
    refine wpAny_bind (wpAny_mono g1 (fun _ z2 g2 => ?_) fun _ _ g => g)
    refine wpAny_bind (wpAny_mono g2 (fun _ z3 g3 => wpAny_bind (wpAny_mono g3 (fun ok z4 g4 => ?_) fun _ _ g => g)) fun _ _ g => g)
    cases ok with
    | false => exact wpAny_pure ⟨rfl, g4⟩
    | true =>
      refine wpAny_bind (wpAny_mono g4 (fun y z5 g5 => ?_) fun _ _ g => g)
      refine wpAny_bind (wpAny_standAt (wpAny_bind (wpAny_of_eq (hs y) (wpAny_bind (wpAny_holding (wpAny_mono g5 (fun it1 z6 g6 => ?_) fun _ _ g => g))))))
      refine wpAny_bind (wpAny_runOwn ?_)
      rw [Around.mark_none]
      refine codeAny_mono g6 fun r s' hr => ?_
      cases r with
      | ok f =>
        first
          | exact wpAny_pure ⟨rfl, hr⟩
          | exact wpAny_bind (wpAny_pure (wpAny_pure ⟨rfl, hr⟩))
      | error e => exact hr.elim
theorem loopC3_1 (hs : ∀ y, foldedSetIterable i2 env y = pure y) (I : Nat → Shared → Prop)
    (turn : ∀ n s, I n s → wpAny (model prog w) A (pyNext it) (fun r z1 => match r with
      | none => R (.ok .next) z1
      | some u => wpAny (model prog w) A (letOwnedTupleGo t1 it u) (fun _ z2 => wpAny (model prog w) A (assign t1 env u) (fun _ z3 =>
          wpAny (model prog w) A (forIn ifs1 true fun c r => if r = true then do let ok ← isTrue c env (eval c env); pure (ForInStep.yield ok) else pure (ForInStep.yield r)) (fun ok z4 =>
            if ok = true then wpAny (model prog w) A (eval i2 env) (fun y z5 => wpAny (model prog w) A (pyIter y) (fun it1 z6 =>
              codeAny (model prog w) A (.compStart (.ListComp elt [⟨t0, i0, ifs0, 0⟩, ⟨t1, i1, ifs1, 0⟩, ⟨t2, i2, ifs2, 0⟩] scope pos) 2 it1 acc env) (fun r s' => match r with
                | .ok _ => ∃ m, m < n ∧ I m s'
                | .error _ => False) z6) (notedBy (model prog w) A env fun x s' => R (.error x) s') z5) (notedBy (model prog w) A env fun x s' => R (.error x) s') z4
            else ∃ m, m < n ∧ I m z4) (notedBy (model prog w) A env fun x s' => R (.error x) s') z3) (notedBy (model prog w) A env fun x s' => R (.error x) s') z2) (notedBy (model prog w) A env fun x s' => R (.error x) s') z1) (notedBy (model prog w) A env fun x s' => R (.error x) s') s)
    (n : Nat) (h : I n s) : codeAny (model prog w) A (.compLoop (.ListComp elt [⟨t0, i0, ifs0, 0⟩, ⟨t1, i1, ifs1, 0⟩, ⟨t2, i2, ifs2, 0⟩] scope pos) 1 it acc env) R s := by
  refine codeAny_loop rfl I (fun n s hI => ?_) n h
  show wpAny _ A ((compTurn (.ListComp elt [⟨t0, i0, ifs0, 0⟩, ⟨t1, i1, ifs1, 0⟩, ⟨t2, i2, ifs2, 0⟩] scope pos) 1 it acc env).onRaise (fun x => do noteFrame x env; theTreesLotGoes x)) _ _ s
  refine wpAny_noted ?_
  rw [turnC3_1]
  refine wpAny_bind (wpAny_standAt (wpAny_bind (wpAny_mono (turn n s hI) (fun r z1 g1 => ?_) fun _ _ g => g)))
  cases r with
  | none => exact wpAny_pure g1
  | some u =>
    refine wpAny_bind (wpAny_mono g1 (fun _ z2 g2 => ?_) fun _ _ g => g)
    refine wpAny_bind (wpAny_mono g2 (fun _ z3 g3 => wpAny_bind (wpAny_mono g3 (fun ok z4 g4 => ?_) fun _ _ g => g)) fun _ _ g => g)
    cases ok with
    | false => exact wpAny_pure ⟨rfl, g4⟩
    | true =>
      refine wpAny_bind (wpAny_mono g4 (fun y z5 g5 => ?_) fun _ _ g => g)
      refine wpAny_bind (wpAny_standAt (wpAny_bind (wpAny_of_eq (hs y) (wpAny_bind (wpAny_holding (wpAny_mono g5 (fun it1 z6 g6 => ?_) fun _ _ g => g))))))
      refine wpAny_bind (wpAny_runOwn ?_)
      rw [Around.mark_none]
      refine codeAny_mono g6 fun r s' hr => ?_
      cases r with
      | ok f =>
        first
          | exact wpAny_pure ⟨rfl, hr⟩
          | exact wpAny_bind (wpAny_pure (wpAny_pure ⟨rfl, hr⟩))
      | error e => exact hr.elim
theorem loopC3_2 (I : Nat → Shared → Prop)
    (turn : ∀ n s, I n s → wpAny (model prog w) A (pyNext it) (fun r z1 => match r with
      | none => R (.ok .next) z1
      | some u => wpAny (model prog w) A (letOwnedTupleGo t2 it u) (fun _ z2 => wpAny (model prog w) A (assign t2 env u) (fun _ z3 =>
          wpAny (model prog w) A (forIn ifs2 true fun c r => if r = true then do let ok ← isTrue c env (eval c env); pure (ForInStep.yield ok) else pure (ForInStep.yield r)) (fun ok z4 =>
            if ok = true then wpAny (model prog w) A (eval elt env) (fun y z5 =>
              wpAny (model prog w) A (call (.builtin "list.append") [acc, y]) (fun _ z6 => ∃ m, m < n ∧ I m z6) (notedBy (model prog w) A env fun x s' => R (.error x) s') z5) (notedBy (model prog w) A env fun x s' => R (.error x) s') z4
            else ∃ m, m < n ∧ I m z4) (notedBy (model prog w) A env fun x s' => R (.error x) s') z3) (notedBy (model prog w) A env fun x s' => R (.error x) s') z2) (notedBy (model prog w) A env fun x s' => R (.error x) s') z1) (notedBy (model prog w) A env fun x s' => R (.error x) s') s)
    (n : Nat) (h : I n s) : codeAny (model prog w) A (.compLoop (.ListComp elt [⟨t0, i0, ifs0, 0⟩, ⟨t1, i1, ifs1, 0⟩, ⟨t2, i2, ifs2, 0⟩] scope pos) 2 it acc env) R s := by
  refine codeAny_loop rfl I (fun n s hI => ?_) n h
  show wpAny _ A ((compTurn (.ListComp elt [⟨t0, i0, ifs0, 0⟩, ⟨t1, i1, ifs1, 0⟩, ⟨t2, i2, ifs2, 0⟩] scope pos) 2 it acc env).onRaise (fun x => do noteFrame x env; theTreesLotGoes x)) _ _ s
  refine wpAny_noted ?_
  rw [turnC3_2]
  refine wpAny_bind (wpAny_standAt (wpAny_bind (wpAny_mono (turn n s hI) (fun r z1 g1 => ?_) fun _ _ g => g)))
  cases r with
  | none => exact wpAny_pure g1
  | some u =>
    refine wpAny_bind (wpAny_mono g1 (fun _ z2 g2 => ?_) fun _ _ g => g)
    refine wpAny_bind (wpAny_mono g2 (fun _ z3 g3 => wpAny_bind (wpAny_mono g3 (fun ok z4 g4 => ?_) fun _ _ g => g)) fun _ _ g => g)
    cases ok with
    | false => exact wpAny_pure ⟨rfl, g4⟩
    | true =>
      exact wpAny_bind (wpAny_bind (wpAny_mono g4 (fun y z5 g5 => wpAny_bind (wpAny_mono g5 (fun _ z6 g6 => wpAny_pure (wpAny_pure ⟨rfl, g6⟩)) fun _ _ g => g)) fun _ _ g => g))
theorem startC3_1 (h0 : codeAny (model prog w) A (.compLoop (.ListComp elt [⟨t0, i0, ifs0, 0⟩, ⟨t1, i1, ifs1, 0⟩, ⟨t2, i2, ifs2, 0⟩] scope pos) 1 it acc env) R s)
    (h : wpAny (model prog w) A (pyIter it) (fun it' s' => codeAny (model prog w) A (.compLoop (.ListComp elt [⟨t0, i0, ifs0, 0⟩, ⟨t1, i1, ifs1, 0⟩, ⟨t2, i2, ifs2, 0⟩] scope pos) 1 it' acc env) R s') (notedBy (model prog w) A env fun x s' => R (.error x) s') s) :
    codeAny (model prog w) A (.compStart (.ListComp elt [⟨t0, i0, ifs0, 0⟩, ⟨t1, i1, ifs1, 0⟩, ⟨t2, i2, ifs2, 0⟩] scope pos) 1 it acc env) R s := by
  refine codeAny_of_tree ?_
  show wpAny _ _ ((compStart (.ListComp elt [⟨t0, i0, ifs0, 0⟩, ⟨t1, i1, ifs1, 0⟩, ⟨t2, i2, ifs2, 0⟩] scope pos) 1 it acc env).onRaise (fun x => do noteFrame x env; standAt theWindowsPlace)) _ _ s
  refine wpAny_notedAt ?_
  unfold compStart
  show wpAny _ _ (ask >>= _) _ _ s
  refine wpAny_bind (wpAny_askSetting (wpAny_ite ?_))
  split
  · first
      | exact wpAny_bind (wpAny_pure (wpAny_pure (And.intro rfl h0)))
      | exact wpAny_pure (And.intro rfl h0)
  · first
      | exact wpAny_bind (wpAny_rule (wpAny_bind (wpAny_standAt (wpAny_bind (wpAny_mono h (fun it' s' g => wpAny_pure (And.intro rfl g)) fun _ _ z => z)))))
      | (refine wpAny_bind (wpAny_rule ?_); show wpAny _ _ (standAt i1.pos >>= _) _ _ s; exact wpAny_bind (wpAny_standAt (wpAny_bind (wpAny_mono h (fun it' s' g => wpAny_pure (And.intro rfl g)) fun _ _ z => z))))
theorem startC3_2 (h0 : codeAny (model prog w) A (.compLoop (.ListComp elt [⟨t0, i0, ifs0, 0⟩, ⟨t1, i1, ifs1, 0⟩, ⟨t2, i2, ifs2, 0⟩] scope pos) 2 it acc env) R s)
    (h : wpAny (model prog w) A (pyIter it) (fun it' s' => codeAny (model prog w) A (.compLoop (.ListComp elt [⟨t0, i0, ifs0, 0⟩, ⟨t1, i1, ifs1, 0⟩, ⟨t2, i2, ifs2, 0⟩] scope pos) 2 it' acc env) R s') (notedBy (model prog w) A env fun x s' => R (.error x) s') s) :
    codeAny (model prog w) A (.compStart (.ListComp elt [⟨t0, i0, ifs0, 0⟩, ⟨t1, i1, ifs1, 0⟩, ⟨t2, i2, ifs2, 0⟩] scope pos) 2 it acc env) R s := by
  refine codeAny_of_tree ?_
  show wpAny _ _ ((compStart (.ListComp elt [⟨t0, i0, ifs0, 0⟩, ⟨t1, i1, ifs1, 0⟩, ⟨t2, i2, ifs2, 0⟩] scope pos) 2 it acc env).onRaise (fun x => do noteFrame x env; standAt theWindowsPlace)) _ _ s
  refine wpAny_notedAt ?_
  unfold compStart
  show wpAny _ _ (ask >>= _) _ _ s
  refine wpAny_bind (wpAny_askSetting (wpAny_ite ?_))
  split
  · first
      | exact wpAny_bind (wpAny_pure (wpAny_pure (And.intro rfl h0)))
      | exact wpAny_pure (And.intro rfl h0)
  · first
      | exact wpAny_bind (wpAny_rule (wpAny_bind (wpAny_standAt (wpAny_bind (wpAny_mono h (fun it' s' g => wpAny_pure (And.intro rfl g)) fun _ _ z => z)))))
      | (refine wpAny_bind (wpAny_rule ?_); show wpAny _ _ (standAt i2.pos >>= _) _ _ s; exact wpAny_bind (wpAny_standAt (wpAny_bind (wpAny_mono h (fun it' s' g => wpAny_pure (And.intro rfl g)) fun _ _ z => z))))
end
section
variable {X : Cx}
/-- three clauses: as tLc2, one loop deeper. vs: the block's names, vs1: those of the second and the third target, vs2: those of the third -/
def tLc3 (wi : TI) (g : TG) (tt : TT) (wi1 : TI) (g1 : TG) (tt1 : TT) (wi2 : TI) (g2 : TG) (tt2 : TT) (te : TE) (vs vs1 vs2 : List Nat) : TE := fun σ H Q => wi σ H fun J Ha => ∀ D, Ha D = none → ∃ W : Nat → Nat → Hp → Prop, (∃ m, W 0 m (upd Ha D (.lst []))) ∧ ∀ i m H, W i m H →
  (J.stop i H ∧ Q (.ref D) H) ∨ (J.go i H ∧ ∃ Nx : Hp → Prop, (∀ Hn, Nx Hn → ∃ m', m' < m ∧ W (i + 1) m' Hn) ∧ ∀ x Hn, J.yld i H x Hn → g x (wipe σ vs) Hn fun σ2 Hb => wipe σ2 vs = wipe σ vs ∧ tt σ2 Hb fun b Hc =>
    if b = true then wi1 σ2 Hc fun J1 Hd => ∃ W1 : Nat → Nat → Hp → Prop, (∃ m, W1 0 m Hd) ∧ ∀ j k H, W1 j k H →
      (J1.stop j H ∧ Nx H) ∨ (J1.go j H ∧ ∃ Nx1 : Hp → Prop, (∀ Hn, Nx1 Hn → ∃ k', k' < k ∧ W1 (j + 1) k' Hn) ∧ ∀ x Hn, J1.yld j H x Hn → g1 x (wipe σ2 vs1) Hn fun σ3 He => wipe σ3 vs1 = wipe σ2 vs1 ∧ tt1 σ3 He fun b Hf =>
        if b = true then wi2 σ3 Hf fun J2 Hg => ∃ W2 : Nat → Nat → Hp → Prop, (∃ m, W2 0 m Hg) ∧ ∀ l q H, W2 l q H →
          (J2.stop l H ∧ Nx1 H) ∨ (J2.go l H ∧ ∃ Nx2 : Hp → Prop, (∀ Hn, Nx2 Hn → ∃ q', q' < q ∧ W2 (l + 1) q' Hn) ∧ ∀ x Hn, J2.yld l H x Hn → g2 x (wipe σ3 vs2) Hn fun σ4 Hh => wipe σ4 vs2 = wipe σ3 vs2 ∧ tt2 σ4 Hh fun b Hi =>
            if b = true then te σ4 Hi fun y Hj => ∃ acc, Hj D = some (.lst acc) ∧ acc.length < sizeLine ∧ Nx2 (upd Hj D (.lst (acc ++ [y]))) else Nx2 Hi)
        else Nx1 Hf)
    else Nx Hc)
theorem coreC3 {pins : List (Addr × Obj)} {s : Shared} {σ : St} {H : Hp} {Q : VK} {elt tg iter tg1 iter1 tg2 iter2 : Expr} {ifs ifs1 ifs2 : List Expr} {scope : Scope} {own : List (Str × Nat)} {vs1 vs2 : List Nat} {pos : Pos} {wi wi1 wi2 : TI} {g g1 g2 : TG} {tt tt1 tt2 : TT} {te : TE} {pos' : Pos} {use : Option (Value → Sem Unit)} {Qf : Value → Shared → Prop}
    (hc : X.calm = true) (hN : X.N.Nodup) (I : Inv X pins σ H s) (hi : PI X tg iter wi) (ok : BlkOk X.N X.env.scope scope own) (hv : ∀ i ∈ vs1, i ∈ own.map (·.2)) (hv2 : ∀ i ∈ vs2, i ∈ vs1)
    (hg : ∀ (s : Shared) (H : Hp) (C : Addr) (cl : List (Str × Addr)) (fp : List Addr), PG (X.blk s H scope (compEnvC scope cl C X.env) fp) tg g) (ht : ∀ (s : Shared) (H : Hp) (C : Addr) (cl : List (Str × Addr)) (fp : List Addr), PTs (X.blk s H scope (compEnvC scope cl C X.env) fp) ifs tt) (hi1 : ∀ (s : Shared) (H : Hp) (C : Addr) (cl : List (Str × Addr)) (fp : List Addr), PI (X.blk s H scope (compEnvC scope cl C X.env) fp) tg1 iter1 wi1)
    (hg1 : ∀ (s : Shared) (H : Hp) (C : Addr) (cl : List (Str × Addr)) (fp : List Addr), PG (X.blk s H scope (compEnvC scope cl C X.env) fp) tg1 g1) (ht1 : ∀ (s : Shared) (H : Hp) (C : Addr) (cl : List (Str × Addr)) (fp : List Addr), PTs (X.blk s H scope (compEnvC scope cl C X.env) fp) ifs1 tt1) (hi2 : ∀ (s : Shared) (H : Hp) (C : Addr) (cl : List (Str × Addr)) (fp : List Addr), PI (X.blk s H scope (compEnvC scope cl C X.env) fp) tg2 iter2 wi2)
    (hg2 : ∀ (s : Shared) (H : Hp) (C : Addr) (cl : List (Str × Addr)) (fp : List Addr), PG (X.blk s H scope (compEnvC scope cl C X.env) fp) tg2 g2) (ht2 : ∀ (s : Shared) (H : Hp) (C : Addr) (cl : List (Str × Addr)) (fp : List Addr), PTs (X.blk s H scope (compEnvC scope cl C X.env) fp) ifs2 tt2) (he : ∀ (s : Shared) (H : Hp) (C : Addr) (cl : List (Str × Addr)) (fp : List Addr), PE (X.blk s H scope (compEnvC scope cl C X.env) fp) elt te) (hs : ∀ x, foldedSetIterable iter X.env x = pure x)
    (hs1 : ∀ env x, foldedSetIterable iter1 env x = pure x) (hs2 : ∀ env x, foldedSetIterable iter2 env x = pure x)
    (h : tLc3 wi g tt wi1 g1 tt1 wi2 g2 tt2 te (own.map (·.2)) vs1 vs2 σ H Q)
    (hRR : ∀ D C s' m Hn, Inv X pins σ Hn s' → Q (.ref D) Hn → s'.heap.Ns C m → FpOk X pins Hn C → compPost (model X.prog X.w) X.A X.xe use Qf (.ref D) C (.ok .next) s') :
    wpAny (model X.prog X.w) X.A (comprehension (.ListComp elt [⟨tg, iter, ifs, 0⟩, ⟨tg1, iter1, ifs1, 0⟩, ⟨tg2, iter2, ifs2, 0⟩] scope pos) scope X.env pos' (newList []) false (eval iter X.env) use) Qf X.xe s := by
  have hfree : ∀ y ∈ scope.names, y.2 = .free → ∃ c, X.env.cells.lookup y.1 = some c := fun y hy e => by
    rcases ok.free y hy e with k | k
    · exact I.ok.has _ (.inl k)
    · exact I.ok.has _ (.inr k)
  refine wpAny_comprehension_free (use := use) rfl hs (closure_ok hfree) ok.kind (fun y hy e => by rw [ok.uniq y hy, e])
    (thn (hi.run pins s σ H _ I h) fun xv s1 hx => thn hx fun itv s2 hh2 => ?_)
  obtain ⟨it, fp, tn, J, H2, e, I2, T, st2, f2, q⟩ := hh2
  subst e
  refine wpAny_newObj_type (newEnv_comp ?_) (by show 0 ≤ sizeLine; decide)
  generalize hD : s2.heap.objs.size = D
  have hDn : H2 D = none := I2.hok.fresh (Nat.le_of_eq hD)
  obtain ⟨W, ⟨m0, w0⟩, turn⟩ := q D hDn
  generalize hs3 : ({ s2 with heap := s2.heap.push { cls := .type "list", data := .seq ([] : List Value).toArray } } : Shared) = s3
  have I3 : Inv X pins σ (upd H2 D (.lst [])) s3 := by
    rw [← hs3]
    refine I2.laid (t' := s2.toks) (fun b o e => Heap.get?_push_of_some _ e) (Nat.le_of_eq hD) ⟨Nat.zero_le _, [], 0, .nil, ?_⟩
    rw [← hD]
    exact Heap.get?_push_size _ rfl
  have eh3 : s3.heap = s2.heap.push { cls := .type "list", data := .seq ([] : List Value).toArray } := by rw [← hs3]
  have sz : ∀ b ∈ fp, b < s2.heap.objs.size := fun b hb => by
    obtain ⟨o, e, _⟩ := T.obj _ _ st2 b hb
    exact Heap.lt_size e
  have f3 : ∀ b ∈ fp, FpOk X pins (upd H2 D (.lst [])) b ∧ b < s3.heap.objs.size := fun b hb => by
    have hlt := sz b hb
    refine ⟨⟨?_, (f2 b hb).2⟩, by rw [eh3, Heap.size_push]; exact Nat.lt_succ_of_lt hlt⟩
    rw [upd_ne (by rw [← hD]; exact Nat.ne_of_lt hlt)]
    exact (f2 b hb).1
  have st3 : tn 0 s3.heap := T.keep _ _ _ st2 fun b _ o e => by rw [eh3]; exact Heap.get?_push_of_some _ e
  have I4 := block_start I3 ok hN f3
  have pg := hg s3 (upd H2 D (.lst [])) s3.heap.objs.size (cellsFrom (s3.heap.objs.size + 1) scope.names (cloFrom X.env.cells scope.names [])) fp
  have pt := ht s3 (upd H2 D (.lst [])) s3.heap.objs.size (cellsFrom (s3.heap.objs.size + 1) scope.names (cloFrom X.env.cells scope.names [])) fp
  have pe := he s3 (upd H2 D (.lst [])) s3.heap.objs.size (cellsFrom (s3.heap.objs.size + 1) scope.names (cloFrom X.env.cells scope.names [])) fp
  have pi1 := hi1 s3 (upd H2 D (.lst [])) s3.heap.objs.size (cellsFrom (s3.heap.objs.size + 1) scope.names (cloFrom X.env.cells scope.names [])) fp
  have pg1 := hg1 s3 (upd H2 D (.lst [])) s3.heap.objs.size (cellsFrom (s3.heap.objs.size + 1) scope.names (cloFrom X.env.cells scope.names [])) fp
  have pt1 := ht1 s3 (upd H2 D (.lst [])) s3.heap.objs.size (cellsFrom (s3.heap.objs.size + 1) scope.names (cloFrom X.env.cells scope.names [])) fp
  have pi2 := hi2 s3 (upd H2 D (.lst [])) s3.heap.objs.size (cellsFrom (s3.heap.objs.size + 1) scope.names (cloFrom X.env.cells scope.names [])) fp
  have pg2 := hg2 s3 (upd H2 D (.lst [])) s3.heap.objs.size (cellsFrom (s3.heap.objs.size + 1) scope.names (cloFrom X.env.cells scope.names [])) fp
  have pt2 := ht2 s3 (upd H2 D (.lst [])) s3.heap.objs.size (cellsFrom (s3.heap.objs.size + 1) scope.names (cloFrom X.env.cells scope.names [])) fp
  show codeAny _ _ (.compStart (.ListComp elt [⟨tg, iter, ifs, 0⟩, ⟨tg1, iter1, ifs1, 0⟩, ⟨tg2, iter2, ifs2, 0⟩] scope pos) 0 (.ref it) (.ref D) (compEnvC scope (cellsFrom (s3.heap.objs.size + 1) scope.names (cloFrom X.env.cells scope.names [])) s3.heap.objs.size X.env)) (compPost (model X.prog X.w) X.A X.xe use Qf (.ref D) s3.heap.objs.size) { s3 with heap := pushCells (s3.heap.push { cls := .type "dict", data := .dict #[] }) scope.names }
  have nfp : ∀ b ∈ fp, (upd H2 D (.lst [])) b = none := fun b hb => (f3 b hb).1.1
  generalize hce : compEnvC scope (cellsFrom (s3.heap.objs.size + 1) scope.names (cloFrom X.env.cells scope.names [])) s3.heap.objs.size X.env = ce at I4 pg pt pe pi1 pg1 pt1 pi2 pg2 pt2 ⊢
  have cL : ce.locals = s3.heap.objs.size := by subst hce; rfl
  generalize hH3 : upd H2 D (.lst []) = H3 at I3 I4 pg pt pe pi1 pg1 pt1 pi2 pg2 pt2 w0 nfp f3
  generalize hs4 : ({ s3 with heap := pushCells (s3.heap.push { cls := .type "dict", data := .dict #[] }) scope.names } : Shared) = s4 at I4 ⊢
  have st4 : tn 0 s4.heap := T.keep _ _ _ st3 fun b _ o e => by rw [← hs4]; exact pushCells_keeps _ _ _ _ (Heap.get?_push_of_some _ e)
  have stat : ∀ {σ' : St} {Hn : Hp} {s' : Shared}, Inv (X.blk s3 H3 scope ce fp) [] σ' Hn s' → (∀ b ∈ fp, Hn b = none) → ∀ b ∈ fp, FpOk (X.blk s3 H3 scope ce fp) [] Hn b := fun {σ' Hn s'} I' hn b hb =>
    ⟨hn b hb, (I'.ok.exf b hb).1, I'.ok.exfs b hb, .inl hb, fun x c e => (I'.ok.exf b hb).2 x c e, fun p hp => absurd (show p ∈ ([] : List (Addr × Obj)) ++ [] from hp) (by simp)⟩
  have loop : codeAny (model X.prog X.w) X.A (.compLoop (.ListComp elt [⟨tg, iter, ifs, 0⟩, ⟨tg1, iter1, ifs1, 0⟩, ⟨tg2, iter2, ifs2, 0⟩] scope pos) 0 (.ref it) (.ref D) ce) (compPost (model X.prog X.w) X.A X.xe use Qf (.ref D) s3.heap.objs.size) s4 := by
    refine loopC3_0 (hs1 ce) (fun n s' => ∃ i Hn, Inv (X.blk s3 H3 scope ce fp) [] (wipe σ (own.map (·.2))) Hn s' ∧ tn i s'.heap ∧ (∀ b ∈ fp, Hn b = none) ∧ W i n Hn) ?_ m0 ⟨0, H3, I4, st4, nfp, w0⟩
    rintro n s5 ⟨i, H5, I5, st5, n5, w5⟩
    rcases turn i n H5 w5 with ⟨stop, qq⟩ | ⟨go, Nx, hNx, step⟩
    · have td := T.done (X.blk s3 H3 scope ce fp) rfl rfl rfl hc i [] s5 _ H5 (fun _ _ => False) I5 (stat I5 n5) st5 stop
      refine thnF td fun r s6 ⟨hr, I6⟩ => ?_
      subst hr
      have I7 : Inv X pins σ H5 s6 := I3.call' (ch := fp) I6.os I6.base I6.hok I6.bare fun b hb => ⟨(f3 b hb).1.2.2.2.1, (f3 b hb).1.2.1, (f3 b hb).1.2.2.2.2.1, (f3 b hb).1.2.2.2.2.2⟩
      have nC : H5 s3.heap.objs.size = none := by
        have z : H5 ce.locals = none := I6.free
        rw [cL] at z
        exact z
      obtain ⟨m, hn, _⟩ := I6.loc
      have hn : s6.heap.Ns ce.locals m := hn
      rw [cL] at hn
      exact hRR D s3.heap.objs.size s6 m H5 I7 qq hn (I3.fpOk (Nat.le_refl _) nC)
    · have ti := T.item (X.blk s3 H3 scope ce fp) rfl rfl rfl hc i [] s5 _ H5 (fun _ _ => False) I5 (stat I5 n5) st5 go
      refine thnF ti fun r s6 ⟨u, hr, hh6⟩ => ?_
      subst hr
      refine thnF hh6 fun _ s7 ⟨x, H7, I7, r7, y7, st7, n7⟩ => ?_
      have I7' := I7.pinned (stat I7 n7) (T.obj _ _ st7)
      refine thnF (pg.run _ s7 _ H7 x u _ I7' r7 (step x H7 y7)) fun _ s8 ⟨σ8, H8, I8, hw8, q8⟩ => ?_
      refine thnF (pt.run _ s8 σ8 H8 _ I8 q8) fun b s9 ⟨H9, I9, q9⟩ => ?_
      have fin : ∀ {σ9 : St} {s' : Shared} {Hn : Hp}, Inv (X.blk s3 H3 scope ce fp) ([] ++ pinsAt fp s7.heap) σ9 Hn s' → (wipe σ (own.map (·.2))).length = σ9.length → (∀ (j : Nat) v, (wipe σ (own.map (·.2)))[j]? = some (some v) → σ9[j]? = some (some v)) → Nx Hn →
          ∃ m, m < n ∧ ∃ i Hn, Inv (X.blk s3 H3 scope ce fp) [] (wipe σ (own.map (·.2))) Hn s' ∧ tn i s'.heap ∧ (∀ b ∈ fp, Hn b = none) ∧ W i m Hn := fun {σ9 s' Hn} I' hl hk nx => by
        obtain ⟨m', hm, w'⟩ := hNx Hn nx
        have pin' : ∀ b ∈ fp, ∀ o, s7.heap.get? b = some o → s'.heap.get? b = some o ∧ Hn b = none := fun b hb o e =>
          let z := I'.pin (b, o) (List.mem_append_right _ (List.mem_append_right _ (mem_pinsAt hb e)))
          ⟨z.1, z.2.1⟩
        refine ⟨m', hm, i + 1, Hn, (I'.unpinned (pins := [])).weak hl hk, T.keep _ _ _ st7 fun b hb o e => (pin' b hb o e).1, fun b hb => ?_, w'⟩
        obtain ⟨o, e, _⟩ := T.obj _ _ st7 b hb
        exact (pin' b hb o e).2
      have hl8 : (wipe σ (own.map (·.2))).length = σ8.length := by rw [← hw8, wipe_length]
      have hk8 : ∀ (j : Nat) v, (wipe σ (own.map (·.2)))[j]? = some (some v) → σ8[j]? = some (some v) := fun j v e => by
        rw [← hw8] at e
        exact (wipe_some e).1
      have hk9 : ∀ (j : Nat) v, (wipe σ (own.map (·.2)))[j]? = some (some v) → (wipe σ8 vs1)[j]? = some (some v) := fun j v e => by
        rw [← hw8] at e
        obtain ⟨e1, e2⟩ := wipe_some e
        rw [wipe_out fun z => e2 (hv j z)]
        exact e1
      cases b with
      | false =>
        simp only [Bool.false_eq_true, if_false] at q9 ⊢
        exact fin I9 hl8 hk8 q9
      | true =>
        simp only [if_true] at q9 ⊢
        refine thnF (pi1.run _ s9 σ8 H9 _ I9 q9) fun xv s10 hx => thnF hx fun itv s11 hh11 => ?_
        obtain ⟨it1, fp1, tn1, J1, H11, e1, I11, T1, st11, f11, W1, ⟨m1, w1⟩, turn1⟩ := hh11
        subst e1
        have stat1 : ∀ {Hn : Hp}, (∀ b ∈ fp1, Hn b = none) → ∀ b ∈ fp1, FpOk (X.blk s3 H3 scope ce fp) ([] ++ pinsAt fp s7.heap) Hn b := fun hn b hb => ⟨hn b hb, (f11 b hb).2⟩
        have loop1 : codeAny (model X.prog X.w) X.A (.compLoop (.ListComp elt [⟨tg, iter, ifs, 0⟩, ⟨tg1, iter1, ifs1, 0⟩, ⟨tg2, iter2, ifs2, 0⟩] scope pos) 1 (.ref it1) (.ref D) ce)
            (fun r s' => match r with
              | .ok _ => ∃ m, m < n ∧ ∃ i Hn, Inv (X.blk s3 H3 scope ce fp) [] (wipe σ (own.map (·.2))) Hn s' ∧ tn i s'.heap ∧ (∀ b ∈ fp, Hn b = none) ∧ W i m Hn
              | .error _ => False) s11 := by
          refine loopC3_1 (hs2 ce) (fun k s' => ∃ j Hn, Inv (X.blk s3 H3 scope ce fp) ([] ++ pinsAt fp s7.heap) (wipe σ8 vs1) Hn s' ∧ tn1 j s'.heap ∧ (∀ b ∈ fp1, Hn b = none) ∧ W1 j k Hn) ?_ m1 ⟨0, H11, I11.weak (wipe_length _ _) (fun j v e => (wipe_some e).1), st11, fun b hb => (f11 b hb).1, w1⟩
          rintro k s12 ⟨j, H12, I12, st12, n12, w12⟩
          rcases turn1 j k H12 w12 with ⟨stop1, nx1⟩ | ⟨go1, Nx1, hNx1, step1⟩
          · refine thnF (T1.done (X.blk s3 H3 scope ce fp) rfl rfl rfl hc j _ s12 (wipe σ8 vs1) H12 (fun _ _ => False) I12 (stat1 n12) st12 stop1) fun r s13 ⟨hr, I13⟩ => ?_
            subst hr
            exact fin I13 (hl8.trans (wipe_length σ8 vs1).symm) hk9 nx1
          · refine thnF (T1.item (X.blk s3 H3 scope ce fp) rfl rfl rfl hc j _ s12 (wipe σ8 vs1) H12 (fun _ _ => False) I12 (stat1 n12) st12 go1) fun r s13 ⟨u1, hr, hh13⟩ => ?_
            subst hr
            refine thnF hh13 fun _ s14 ⟨x1, H14, I14, r14, y14, st14, n14⟩ => ?_
            have I14' := I14.pinned (stat1 n14) (T1.obj _ _ st14)
            refine thnF (pg1.run _ s14 (wipe σ8 vs1) H14 x1 u1 _ I14' r14 (step1 x1 H14 y14)) fun _ s15 ⟨σ15, H15, I15, hw15, q15⟩ => ?_
            refine thnF (pt1.run _ s15 σ15 H15 _ I15 q15) fun b1 s16 ⟨H16, I16, q16⟩ => ?_
            have fin1 : ∀ {σ' : St} {s' : Shared} {Hn : Hp}, Inv (X.blk s3 H3 scope ce fp) (([] ++ pinsAt fp s7.heap) ++ pinsAt fp1 s14.heap) σ' Hn s' → (wipe σ8 vs1).length = σ'.length → (∀ (j : Nat) v, (wipe σ8 vs1)[j]? = some (some v) → σ'[j]? = some (some v)) → Nx1 Hn →
                ∃ m, m < k ∧ ∃ j Hn, Inv (X.blk s3 H3 scope ce fp) ([] ++ pinsAt fp s7.heap) (wipe σ8 vs1) Hn s' ∧ tn1 j s'.heap ∧ (∀ b ∈ fp1, Hn b = none) ∧ W1 j m Hn := fun {σ' s' Hn} I' hl hk nx => by
              obtain ⟨m', hm, w'⟩ := hNx1 Hn nx
              have pin' : ∀ b ∈ fp1, ∀ o, s14.heap.get? b = some o → s'.heap.get? b = some o ∧ Hn b = none := fun b hb o e =>
                let z := I'.pin (b, o) (List.mem_append_right _ (List.mem_append_right _ (mem_pinsAt hb e)))
                ⟨z.1, z.2.1⟩
              refine ⟨m', hm, j + 1, Hn, I'.unpinned.weak hl hk, T1.keep _ _ _ st14 fun b hb o e => (pin' b hb o e).1, fun b hb => ?_, w'⟩
              obtain ⟨o, e, _⟩ := T1.obj _ _ st14 b hb
              exact (pin' b hb o e).2
            have hl15 : (wipe σ8 vs1).length = σ15.length := by rw [← hw15, wipe_length]
            have hk15 : ∀ (j : Nat) v, (wipe σ8 vs1)[j]? = some (some v) → σ15[j]? = some (some v) := fun j v e => by
              rw [← hw15] at e
              exact (wipe_some e).1
            have hk16 : ∀ (j : Nat) v, (wipe σ8 vs1)[j]? = some (some v) → (wipe σ15 vs2)[j]? = some (some v) := fun j v e => by
              rw [← hw15] at e
              obtain ⟨e1, e2⟩ := wipe_some e
              rw [wipe_out fun z => e2 (hv2 j z)]
              exact e1
            cases b1 with
            | false =>
              simp only [Bool.false_eq_true, if_false] at q16 ⊢
              exact fin1 I16 hl15 hk15 q16
            | true =>
              simp only [if_true] at q16 ⊢
              refine thnF (pi2.run _ s16 σ15 H16 _ I16 q16) fun xv2 s17 hx2 => thnF hx2 fun itv2 s18 hh18 => ?_
              obtain ⟨it2, fp2, tn2, J2, H18, e2, I18, T2, st18, f18, W2, ⟨m2, w2⟩, turn2⟩ := hh18
              subst e2
              have stat2 : ∀ {Hn : Hp}, (∀ b ∈ fp2, Hn b = none) → ∀ b ∈ fp2, FpOk (X.blk s3 H3 scope ce fp) (([] ++ pinsAt fp s7.heap) ++ pinsAt fp1 s14.heap) Hn b := fun hn b hb => ⟨hn b hb, (f18 b hb).2⟩
              have loop2 : codeAny (model X.prog X.w) X.A (.compLoop (.ListComp elt [⟨tg, iter, ifs, 0⟩, ⟨tg1, iter1, ifs1, 0⟩, ⟨tg2, iter2, ifs2, 0⟩] scope pos) 2 (.ref it2) (.ref D) ce)
                  (fun r s' => match r with
                    | .ok _ => ∃ m, m < k ∧ ∃ j Hn, Inv (X.blk s3 H3 scope ce fp) ([] ++ pinsAt fp s7.heap) (wipe σ8 vs1) Hn s' ∧ tn1 j s'.heap ∧ (∀ b ∈ fp1, Hn b = none) ∧ W1 j m Hn
                    | .error _ => False) s18 := by
                refine loopC3_2 (fun q s' => ∃ l Hn, Inv (X.blk s3 H3 scope ce fp) (([] ++ pinsAt fp s7.heap) ++ pinsAt fp1 s14.heap) (wipe σ15 vs2) Hn s' ∧ tn2 l s'.heap ∧ (∀ b ∈ fp2, Hn b = none) ∧ W2 l q Hn) ?_ m2 ⟨0, H18, I18.weak (wipe_length _ _) (fun j v e => (wipe_some e).1), st18, fun b hb => (f18 b hb).1, w2⟩
                rintro q s19 ⟨l, H19, I19, st19, n19, w19⟩
                rcases turn2 l q H19 w19 with ⟨stop2, nx2⟩ | ⟨go2, Nx2, hNx2, step2⟩
                · refine thnF (T2.done (X.blk s3 H3 scope ce fp) rfl rfl rfl hc l _ s19 (wipe σ15 vs2) H19 (fun _ _ => False) I19 (stat2 n19) st19 stop2) fun r s20 ⟨hr, I20⟩ => ?_
                  subst hr
                  exact fin1 I20 (hl15.trans (wipe_length σ15 vs2).symm) hk16 nx2
                · refine thnF (T2.item (X.blk s3 H3 scope ce fp) rfl rfl rfl hc l _ s19 (wipe σ15 vs2) H19 (fun _ _ => False) I19 (stat2 n19) st19 go2) fun r s20 ⟨u2, hr, hh20⟩ => ?_
                  subst hr
                  refine thnF hh20 fun _ s21 ⟨x2, H21, I21, r21, y21, st21, n21⟩ => ?_
                  have I21' := I21.pinned (stat2 n21) (T2.obj _ _ st21)
                  refine thnF (pg2.run _ s21 (wipe σ15 vs2) H21 x2 u2 _ I21' r21 (step2 x2 H21 y21)) fun _ s22 ⟨σ22, H22, I22, hw22, q22⟩ => ?_
                  refine thnF (pt2.run _ s22 σ22 H22 _ I22 q22) fun b2 s23 ⟨H23, I23, q23⟩ => ?_
                  have fin2 : ∀ {s' : Shared} {Hn : Hp}, Inv (X.blk s3 H3 scope ce fp) ((([] ++ pinsAt fp s7.heap) ++ pinsAt fp1 s14.heap) ++ pinsAt fp2 s21.heap) σ22 Hn s' → Nx2 Hn → ∃ m, m < q ∧ ∃ l Hn, Inv (X.blk s3 H3 scope ce fp) (([] ++ pinsAt fp s7.heap) ++ pinsAt fp1 s14.heap) (wipe σ15 vs2) Hn s' ∧ tn2 l s'.heap ∧ (∀ b ∈ fp2, Hn b = none) ∧ W2 l m Hn := fun {s' Hn} I' nx => by
                    obtain ⟨m', hm, w'⟩ := hNx2 Hn nx
                    have pin' : ∀ b ∈ fp2, ∀ o, s21.heap.get? b = some o → s'.heap.get? b = some o ∧ Hn b = none := fun b hb o e =>
                      let z := I'.pin (b, o) (List.mem_append_right _ (List.mem_append_right _ (mem_pinsAt hb e)))
                      ⟨z.1, z.2.1⟩
                    refine ⟨m', hm, l + 1, Hn, I'.unpinned.weak (by rw [← hw22, wipe_length]) (fun j v e => by rw [← hw22] at e; exact (wipe_some e).1), T2.keep _ _ _ st21 fun b hb o e => (pin' b hb o e).1, fun b hb => ?_, w'⟩
                    obtain ⟨o, e, _⟩ := T2.obj _ _ st21 b hb
                    exact (pin' b hb o e).2
                  cases b2 with
                  | false =>
                    simp only [Bool.false_eq_true, if_false] at q23 ⊢
                    exact fin2 I23 q23
                  | true =>
                    simp only [if_true] at q23 ⊢
                    refine thnF (pe.run _ s23 σ22 H23 _ I23 q23) fun z s24 ⟨yv, H24, I24, r24, acc, hD24, hz24, nx⟩ => ?_
                    exact app_ok (X := (X.blk s3 H3 scope ce fp)) I24 hD24 hz24 r24 fun s25 I25 => fin2 I25 nx
              exact startC3_2 loop2 (T2.self X.A 0 _ _ _ st18 loop2)
        exact startC3_1 loop1 (T1.self X.A 0 _ _ _ st11 loop1)
  exact codeAny_compStart_list loop (T.self X.A 0 _ _ _ st4 loop)
theorem pe_lc3 {elt tg iter tg1 iter1 tg2 iter2 : Expr} {ifs ifs1 ifs2 : List Expr} {scope : Scope} {own : List (Str × Nat)} {vs1 vs2 : List Nat} {pos : Pos} {wi wi1 wi2 : TI} {g g1 g2 : TG} {tt tt1 tt2 : TT} {te : TE} (hc : X.calm = true) (hN : X.N.Nodup) (hi : PI X tg iter wi) (ok : BlkOk X.N X.env.scope scope own) (hv : ∀ i ∈ vs1, i ∈ own.map (·.2)) (hv2 : ∀ i ∈ vs2, i ∈ vs1)
    (hg : ∀ (s : Shared) (H : Hp) (C : Addr) (cl : List (Str × Addr)) (fp : List Addr), PG (X.blk s H scope (compEnvC scope cl C X.env) fp) tg g) (ht : ∀ (s : Shared) (H : Hp) (C : Addr) (cl : List (Str × Addr)) (fp : List Addr), PTs (X.blk s H scope (compEnvC scope cl C X.env) fp) ifs tt) (hi1 : ∀ (s : Shared) (H : Hp) (C : Addr) (cl : List (Str × Addr)) (fp : List Addr), PI (X.blk s H scope (compEnvC scope cl C X.env) fp) tg1 iter1 wi1)
    (hg1 : ∀ (s : Shared) (H : Hp) (C : Addr) (cl : List (Str × Addr)) (fp : List Addr), PG (X.blk s H scope (compEnvC scope cl C X.env) fp) tg1 g1) (ht1 : ∀ (s : Shared) (H : Hp) (C : Addr) (cl : List (Str × Addr)) (fp : List Addr), PTs (X.blk s H scope (compEnvC scope cl C X.env) fp) ifs1 tt1) (hi2 : ∀ (s : Shared) (H : Hp) (C : Addr) (cl : List (Str × Addr)) (fp : List Addr), PI (X.blk s H scope (compEnvC scope cl C X.env) fp) tg2 iter2 wi2)
    (hg2 : ∀ (s : Shared) (H : Hp) (C : Addr) (cl : List (Str × Addr)) (fp : List Addr), PG (X.blk s H scope (compEnvC scope cl C X.env) fp) tg2 g2) (ht2 : ∀ (s : Shared) (H : Hp) (C : Addr) (cl : List (Str × Addr)) (fp : List Addr), PTs (X.blk s H scope (compEnvC scope cl C X.env) fp) ifs2 tt2) (he : ∀ (s : Shared) (H : Hp) (C : Addr) (cl : List (Str × Addr)) (fp : List Addr), PE (X.blk s H scope (compEnvC scope cl C X.env) fp) elt te) (hs : ∀ x, foldedSetIterable iter X.env x = pure x := by intro _; rfl) (hs1 : ∀ env x, foldedSetIterable iter1 env x = pure x := by intro _ _; rfl) (hs2 : ∀ env x, foldedSetIterable iter2 env x = pure x := by intro _ _; rfl) :
    PE X (.ListComp elt [⟨tg, iter, ifs, 0⟩, ⟨tg1, iter1, ifs1, 0⟩, ⟨tg2, iter2, ifs2, 0⟩] scope pos) (tLc3 wi g tt wi1 g1 tt1 wi2 g2 tt2 te (own.map (·.2)) vs1 vs2) := by
  refine ⟨fun pins s σ H Q I h => ?_⟩
  rw [eval_ListComp]
  refine coreC3 hc hN I hi ok hv hv2 hg ht hi1 hg1 ht1 hi2 hg2 ht2 he hs hs1 hs2 h fun D C s' m Hn I' q hn f => ⟨m, hn, fun h'' sb => ?_⟩
  obtain ⟨f0, f1, f2, f3, f4, f5⟩ := f
  exact ⟨.ref D, Hn, I'.turned (t' := s'.toks) (fun b o hb e => (sb.2 b hb).trans e) f0 f1 f3 f4 f5, rfl, q⟩
end
end L2
namespace Mir
open PySem PySem.Spec PyProof.Rows L2
/-- the third clause behind a list acc -/
def mLc3C (it2 : Rho → Store → Res (List PV)) (g2 : PV → Rho → Store → Res Rho) (t2 : Rho → Store → Res Bool) (e : Rho → Store → Res PV) (vs2 : List Nat) (acc : List PV) (ρ : Rho) (S : Store) : Res (List PV) :=
  (it2 ρ S).nox.bind fun zs S1 => if acc.length + zs.length ≤ sizeM then (mLcGo g2 t2 e (mWipe ρ vs2) zs S1).nox.bind fun us S2 => .ok (acc ++ us) S2 else .bad
def mLc3B (g1 : PV → Rho → Store → Res Rho) (t1 : Rho → Store → Res Bool) (it2 : Rho → Store → Res (List PV)) (g2 : PV → Rho → Store → Res Rho) (t2 : Rho → Store → Res Bool) (e : Rho → Store → Res PV) (vs2 : List Nat) (ρ : Rho) : List PV → List PV → Store → Res (List PV)
  | acc, [], S => .ok acc S
  | acc, y :: ys, S => (g1 y ρ S).nox.bind fun ρ1 S1 => (t1 ρ1 S1).nox.bind fun k S2 => if k then (mLc3C it2 g2 t2 e vs2 acc ρ1 S2).bind fun acc' S3 => mLc3B g1 t1 it2 g2 t2 e vs2 ρ acc' ys S3 else mLc3B g1 t1 it2 g2 t2 e vs2 ρ acc ys S2
def mLc3A (g : PV → Rho → Store → Res Rho) (t : Rho → Store → Res Bool) (it1 : Rho → Store → Res (List PV)) (g1 : PV → Rho → Store → Res Rho) (t1 : Rho → Store → Res Bool) (it2 : Rho → Store → Res (List PV)) (g2 : PV → Rho → Store → Res Rho) (t2 : Rho → Store → Res Bool) (e : Rho → Store → Res PV) (vs1 vs2 : List Nat) (ρ : Rho) : List PV → List PV → Store → Res (List PV)
  | acc, [], S => .ok acc S
  | acc, x :: xs, S => (g x ρ S).nox.bind fun ρ1 S1 => (t ρ1 S1).nox.bind fun k S2 => if k then (it1 ρ1 S2).nox.bind fun ys S3 => (mLc3B g1 t1 it2 g2 t2 e vs2 (mWipe ρ1 vs1) acc ys S3).nox.bind fun acc' S4 => mLc3A g t it1 g1 t1 it2 g2 t2 e vs1 vs2 ρ acc' xs S4 else mLc3A g t it1 g1 t1 it2 g2 t2 e vs1 vs2 ρ acc xs S2
def mLc3 (it : Rho → Store → Res (List PV)) (g : PV → Rho → Store → Res Rho) (t : Rho → Store → Res Bool) (it1 : Rho → Store → Res (List PV)) (g1 : PV → Rho → Store → Res Rho) (t1 : Rho → Store → Res Bool) (it2 : Rho → Store → Res (List PV)) (g2 : PV → Rho → Store → Res Rho) (t2 : Rho → Store → Res Bool) (e : Rho → Store → Res PV) (vs vs1 vs2 : List Nat) : Rho → Store → Res SO := fun ρ S =>
  (it ρ S).bind fun xs S1 => (mLc3A g t it1 g1 t1 it2 g2 t2 e vs1 vs2 (mWipe ρ vs) [] xs S1).bind fun ys S2 => .ok (.lst ys) S2
theorem notL {K : PySem.W.Frag} {w w' : Wd} {D : Addr} {o : HO} (s : WStep w w') (h : D ∉ w.L) (e : w.H D = some o) : D ∉ w'.L := fun z => by
  rcases s.lset D z with y | y
  · exact h y
  · rw [e] at y; cases y
theorem sim_lc3 {K : PySem.W.Frag} {mg : Str → Option Value} {G : Wd} {E : EK} {wi g tt wi1 g1 tt1 wi2 g2 tt2 te vs vs1 vs2 fi fg ft fi1 fg1 ft1 fi2 fg2 ft2 fe} (hi : ISim K mg G E wi fi) (hno : NoOwn fg) (hg : GtSim K mg G g fg vs) (ht : TSim K mg G (fun _ => E0) tt ft) (hi1 : ISim K mg G (fun _ => E0) wi1 fi1) (hno1 : NoOwn fg1) (hg1 : GtSim K mg G g1 fg1 vs1) (ht1 : TSim K mg G (fun _ => E0) tt1 ft1)
    (hi2 : ISim K mg G (fun _ => E0) wi2 fi2) (hg2 : GtSim K mg G g2 fg2 vs2) (ht2 : TSim K mg G (fun _ => E0) tt2 ft2) (he : ESim K mg G (fun _ => E0) te fe) :
    NSim K mg G E (tLc3 wi g tt wi1 g1 tt1 wi2 g2 tt2 te vs vs1 vs2) (mLc3 fi fg ft fi1 fg1 ft1 fi2 fg2 ft2 fe vs vs1 vs2) := fun w ρ σ Q I q => by
  refine hi w ρ σ _ I (Good.imp (Good.bind1 q) (fun xs S1 h1 => ?_) fun _ _ _ h => h)
  intro w1 J e1 s1 k1 it D hD
  subst e1
  have k2 := laid_ok (o := .lst []) k1 hD
  have s2 := laid_step (o := .lst []) k1 hD
  have hDL : D ∉ w1.L := k1.ninL hD
  have hDw : w.H D = none := by
    cases e : w.H D with
    | none => rfl
    | some o =>
      by_cases z : D ∈ w.L
      · exact absurd (s1.pre.subset z) hDL
      · rw [s1.keep D o e z] at hD; cases hD
  have I1 := I.step s1 k1
  have hGD : G.H D = none := by
    cases e : G.H D with
    | none => rfl
    | some o =>
      by_cases z : D ∈ G.L
      · exact absurd ((I.stp.pre.trans s1.pre).subset z) hDL
      · rw [I.stp.keep D o e z] at hDw; cases hDw
  have npO : ∀ (j : Nat) (o : SO), ρ[j]? = some (.own o) → ∀ p : Addr, σ[j]? = some (some (.ref p)) → p ≠ D := fun j o e p e2 z => by
    obtain ⟨p', a', b', _⟩ := I1.own j o e
    rw [a'] at e2
    cases e2
    rw [z] at b'
    exact k1.nin hD b'
  have wrI : ∀ {ρ' : Rho} {σ' : L2.St} {w6 : Wd} {o : HO}, FI K G w6 ρ' σ' → WOk K (w6.wr D o) → D ∈ w6.O → (∀ (j : Nat) (o' : SO), ρ'[j]? = some (.own o') → ∀ p : Addr, σ'[j]? = some (some (.ref p)) → p ≠ D) → FI K G (w6.wr D o) ρ' σ' := fun {ρ' σ' w6 o} I6 k7 hO6 np => by
    refine ⟨I6.gok, k7, wr_step I6.stp hGD, I6.len, fun j x e => ?_, fun j o' e => ?_, I6.dis, fun j c fs e => ?_⟩
    · rw [wr_hc hO6]; exact I6.val j x e
    · rw [wr_hc hO6]
      obtain ⟨p, a, b, c, d, r⟩ := I6.own j o' e
      exact ⟨p, a, b, c, d, by show SOk K w6.L w6.hc (upd w6.H D _ p) o'; rw [upd_ne (np j o' e p a)]; exact r⟩
    · rw [wr_hc hO6]; exact I6.pin j c fs e
  have np1 : ∀ (j : Nat) (o' : SO), (mWipe ρ vs)[j]? = some (.own o') → ∀ p : Addr, (wipe σ vs)[j]? = some (some (.ref p)) → p ≠ D := fun j o' a p b => by
    obtain ⟨a4, a5⟩ := mWipe_own a
    rw [wipe_out a5] at b
    exact npO j o' a4 p b
  refine ⟨fun i m H => ∃ w2 pa ac, w2.H = H ∧ WStep w w2 ∧ WOk K w2 ∧ VStep w1 w2 ∧ D ∈ w2.O ∧ D ∉ w2.L ∧ w2.H D = some (.lst ac) ∧ RVs K w2.L w2.hc pa ac ∧ FI K G w2 (mWipe ρ vs) (wipe σ vs) ∧ m + i = xs.length ∧ Good (mLc3A fg ft fi1 fg1 ft1 fi2 fg2 ft2 fe vs1 vs2 (mWipe ρ vs) pa (xs.drop i) w2.S) (fun ys S' => PostN K w Q (.lst ys) S') (ExP K mg (E σ) w),
    ⟨xs.length, w1.laid D (.lst []), [], [], rfl, s1.tr s2 I.ok k1, k2, s2.v k1.sub, List.mem_cons_self, hDL, by show upd w1.H D _ D = _; rw [upd_same], rfl, (I1.step s2 k2).wipe vs, rfl, Good.bind1 h1⟩, ?_⟩
  rintro i m H2 ⟨w2, pacc, acc, rfl, s2', k2', v2, hO, hL, hD2, racc, I2, em, h2⟩
  by_cases hx : i < xs.length
  · have ed : xs.drop i = xs[i] :: xs.drop (i + 1) := (List.getElem_cons_drop hx).symm
    rw [ed] at h2
    obtain ⟨go, yl⟩ := (it i w2 v2 k2').1 xs[i] (List.getElem?_eq_getElem hx)
    refine .inr ⟨go, fun H' => ∃ w3 pa ac, w3.H = H' ∧ WStep w w3 ∧ WOk K w3 ∧ VStep w1 w3 ∧ D ∈ w3.O ∧ D ∉ w3.L ∧ w3.H D = some (.lst ac) ∧ RVs K w3.L w3.hc pa ac ∧ FI K G w3 (mWipe ρ vs) (wipe σ vs) ∧ Good (mLc3A fg ft fi1 fg1 ft1 fi2 fg2 ft2 fe vs1 vs2 (mWipe ρ vs) pa (xs.drop (i + 1)) w3.S) (fun ys S' => PostN K w Q (.lst ys) S') (ExP K mg (E σ) w), ?_, fun v H' hy => ?_⟩
    · rintro H' ⟨w3, p3, a3, c1, c2, c3, c4, c5, c6, c7, c8, c9, c10⟩
      exact ⟨m - 1, by omega, w3, p3, a3, c1, c2, c3, c4, c5, c6, c7, c8, c9, by omega, c10⟩
    · obtain ⟨w3, rfl, es, s3, k3, r3⟩ := yl v H' hy
      rw [← es] at h2
      have I3 := I2.step s3 k3
      have h3 := Good.nox (ex' := fun _ _ _ => False) (Good.bind1 h2)
      refine hg w3 _ _ xs[i] v _ I3 r3 (Good.imp (Good.eqn h3) (fun ρ4 S4 h4 => ?_) fun _ _ _ h => h)
      obtain ⟨eρ4, h4⟩ := h4
      intro σ4 e4 l4 f4 I4
      subst e4
      have wp := wipe_wipe σ σ4 vs (by rw [l4, wipe_length]) f4
      refine ⟨wp.1.trans wp.2, ?_⟩
      have h4' := Good.nox (ex' := ExP K mg E0 w3) (Good.bind1 h4)
      refine ht w3 ρ4 σ4 _ I4 (Good.imp h4' (fun b S5 h5 => ?_) fun _ _ _ h => h)
      intro w5 e5 s5 k5
      subst e5
      have s25 := s3.tr s5 k2' k3
      have hD5 : w5.H D = some (.lst acc) := s25.keep D _ hD2 hL
      have hO5 := s25.omono D hO
      have hL5 : D ∉ w5.L := notL (K := K) s25 hL hD2
      cases b with
      | false =>
        rw [if_neg Bool.false_ne_true] at h5 ⊢
        exact ⟨w5, pacc, acc, rfl, s2'.tr s25 I.ok k2', k5, v2.trans (s25.v k2'.sub), hO5, hL5, hD5, racc.mono s25.pre (s25.ext k2'.sub), I2.step s25 k5, h5⟩
      | true =>
        rw [if_pos rfl] at h5 ⊢
        have I5 := I4.step s5 k5
        have h5' := Good.nox (ex' := ExP K mg E0 w5) (Good.bind1 h5)
        refine hi1 w5 ρ4 σ4 _ I5 (Good.imp h5' (fun ys S6 h6 => ?_) fun _ _ _ h => h)
        intro w6 J1 e6 s6 k6 it1
        subst e6
        have s26 := s25.tr s6 k2' k5
        have hD6 : w6.H D = some (.lst acc) := s6.keep D _ hD5 hL5
        have hO6 := s6.omono D hO5
        have hL6 : D ∉ w6.L := notL (K := K) s6 hL5 hD5
        have I6 := (I5.step s6 k6).wipe vs1
        have np4 : ∀ (j : Nat) (o' : SO), (mWipe ρ4 vs1)[j]? = some (.own o') → ∀ p : Addr, (wipe σ4 vs1)[j]? = some (some (.ref p)) → p ≠ D := fun j o' a p b => by
          obtain ⟨a1, a2⟩ := mWipe_own a
          have a3 := hno _ _ _ _ _ eρ4 j o' a1
          obtain ⟨a4, a5⟩ := mWipe_own a3
          rw [wipe_out a2, f4 j a5, wipe_out a5] at b
          exact npO j o' a4 p b
        have h6' := Good.nox (ex' := fun _ _ _ => False) (Good.bind1 h6)
        refine ⟨fun j k H => ∃ w7 pa ac, w7.H = H ∧ WStep w w7 ∧ WOk K w7 ∧ VStep w1 w7 ∧ D ∈ w7.O ∧ D ∉ w7.L ∧ w7.H D = some (.lst ac) ∧ RVs K w7.L w7.hc pa ac ∧ FI K G w7 (mWipe ρ vs) (wipe σ vs) ∧ VStep w6 w7 ∧ k + j = ys.length ∧ FI K G w7 (mWipe ρ4 vs1) (wipe σ4 vs1) ∧ Good (mLc3B fg1 ft1 fi2 fg2 ft2 fe vs2 (mWipe ρ4 vs1) pa (ys.drop j) w7.S) (fun zs S' => Good (mLc3A fg ft fi1 fg1 ft1 fi2 fg2 ft2 fe vs1 vs2 (mWipe ρ vs) zs (xs.drop (i + 1)) S') (fun ys S' => PostN K w Q (.lst ys) S') (ExP K mg (E σ) w)) (fun _ _ _ => False),
          ⟨ys.length, w6, pacc, acc, rfl, s2'.tr s26 I.ok k2', k6, v2.trans (s26.v k2'.sub), hO6, hL6, hD6, racc.mono s26.pre (s26.ext k2'.sub), I2.step s26 k6, VStep.refl _, rfl, I6, h6'⟩, ?_⟩
        rintro j k H7 ⟨w7, pacc7, acc7, rfl, s7, k7, v7, hO7, hL7, hD7, racc7, J7, v67, em7, I7, h7⟩
        by_cases hj : j < ys.length
        · have ey : ys.drop j = ys[j] :: ys.drop (j + 1) := (List.getElem_cons_drop hj).symm
          rw [ey] at h7
          obtain ⟨go1, yl1⟩ := (it1 j w7 v67 k7).1 ys[j] (List.getElem?_eq_getElem hj)
          refine .inr ⟨go1, fun H' => ∃ w8 pa ac, w8.H = H' ∧ WStep w w8 ∧ WOk K w8 ∧ VStep w1 w8 ∧ D ∈ w8.O ∧ D ∉ w8.L ∧ w8.H D = some (.lst ac) ∧ RVs K w8.L w8.hc pa ac ∧ FI K G w8 (mWipe ρ vs) (wipe σ vs) ∧ VStep w6 w8 ∧ FI K G w8 (mWipe ρ4 vs1) (wipe σ4 vs1) ∧ Good (mLc3B fg1 ft1 fi2 fg2 ft2 fe vs2 (mWipe ρ4 vs1) pa (ys.drop (j + 1)) w8.S) (fun zs S' => Good (mLc3A fg ft fi1 fg1 ft1 fi2 fg2 ft2 fe vs1 vs2 (mWipe ρ vs) zs (xs.drop (i + 1)) S') (fun ys S' => PostN K w Q (.lst ys) S') (ExP K mg (E σ) w)) (fun _ _ _ => False), ?_, fun v1 H' hy1 => ?_⟩
          · rintro H' ⟨w8, p8, a8, c1, c2, c3, c4, c5, c6, c7, c8, c9, c10, c11, c12⟩
            exact ⟨k - 1, by omega, w8, p8, a8, c1, c2, c3, c4, c5, c6, c7, c8, c9, c10, by omega, c11, c12⟩
          · obtain ⟨w8, rfl, es8, s8, k8, r8⟩ := yl1 v1 H' hy1
            rw [← es8] at h7
            have I8 := I7.step s8 k8
            have h8 := Good.nox (ex' := fun _ _ _ => False) (Good.bind1 h7)
            refine hg1 w8 _ _ ys[j] v1 _ I8 r8 (Good.imp (Good.eqn h8) (fun ρ9 S9 h9 => ?_) fun _ _ _ h => h)
            obtain ⟨eρ9, h9⟩ := h9
            intro σ9 e9 l9 f9 I9
            subst e9
            have wp1 := wipe_wipe σ4 σ9 vs1 (by rw [l9, wipe_length]) f9
            refine ⟨wp1.1.trans wp1.2, ?_⟩
            have h9' := Good.nox (ex' := ExP K mg E0 w8) (Good.bind1 h9)
            refine ht1 w8 ρ9 σ9 _ I9 (Good.imp h9' (fun b S10 h10 => ?_) fun _ _ _ h => h)
            intro w10 e10 s10 k10
            subst e10
            have s710 := s8.tr s10 k7 k8
            have hD10 : w10.H D = some (.lst acc7) := s710.keep D _ hD7 hL7
            have hO10 := s710.omono D hO7
            have hL10 : D ∉ w10.L := notL (K := K) s710 hL7 hD7
            cases b with
            | false =>
              rw [if_neg Bool.false_ne_true] at h10 ⊢
              exact ⟨w10, pacc7, acc7, rfl, s7.tr s710 I.ok k7, k10, v7.trans (s710.v k7.sub), hO10, hL10, hD10, racc7.mono s710.pre (s710.ext k7.sub), J7.step s710 k10, v67.trans (s710.v k7.sub), I7.step s710 k10, h10⟩
            | true =>
              rw [if_pos rfl] at h10 ⊢
              have I10 := I9.step s10 k10
              have h10' := Good.nox (ex' := ExP K mg E0 w10) (Good.bind1 (Good.bind1 h10))
              refine hi2 w10 ρ9 σ9 _ I10 (Good.imp h10' (fun zs S11 h11 => ?_) fun _ _ _ h => h)
              intro w11 J2 e11 s11 k11 it2
              subst e11
              obtain ⟨hb, h11⟩ := good_if h11
              have s711 := s710.tr s11 k7 k10
              have hD11 : w11.H D = some (.lst acc7) := s11.keep D _ hD10 hL10
              have hO11 := s11.omono D hO10
              have hL11 : D ∉ w11.L := notL (K := K) s11 hL10 hD10
              have I11 := (I10.step s11 k11).wipe vs2
              have np9 : ∀ (j : Nat) (o' : SO), (mWipe ρ9 vs2)[j]? = some (.own o') → ∀ p : Addr, (wipe σ9 vs2)[j]? = some (some (.ref p)) → p ≠ D := fun j o' a p b => by
                obtain ⟨a1, a2⟩ := mWipe_own a
                have a3 := hno1 _ _ _ _ _ eρ9 j o' a1
                obtain ⟨a4, a5⟩ := mWipe_own a3
                rw [wipe_out a2, f9 j a5] at b
                exact np4 j o' a3 p b
              have h11' := Good.nox (ex' := fun _ _ _ => False) (Good.bind1 h11)
              have rl := (racc7.mono s711.pre (s711.ext k7.sub)).len
              refine ⟨fun l q H => ∃ w12 pa ac, w12.H = H ∧ WStep w w12 ∧ WOk K w12 ∧ VStep w1 w12 ∧ D ∈ w12.O ∧ D ∉ w12.L ∧ w12.H D = some (.lst ac) ∧ RVs K w12.L w12.hc pa ac ∧ FI K G w12 (mWipe ρ vs) (wipe σ vs) ∧ VStep w6 w12 ∧ VStep w11 w12 ∧ q + l = zs.length ∧ ac.length ≤ acc7.length + l ∧ FI K G w12 (mWipe ρ4 vs1) (wipe σ4 vs1) ∧ FI K G w12 (mWipe ρ9 vs2) (wipe σ9 vs2) ∧ Good (mLcGo fg2 ft2 fe (mWipe ρ9 vs2) (zs.drop l) w12.S) (fun us S' => Good (mLc3B fg1 ft1 fi2 fg2 ft2 fe vs2 (mWipe ρ4 vs1) (pa ++ us) (ys.drop (j + 1)) S') (fun zs S' => Good (mLc3A fg ft fi1 fg1 ft1 fi2 fg2 ft2 fe vs1 vs2 (mWipe ρ vs) zs (xs.drop (i + 1)) S') (fun ys S' => PostN K w Q (.lst ys) S') (ExP K mg (E σ) w)) (fun _ _ _ => False)) (fun _ _ _ => False),
                ⟨zs.length, w11, pacc7, acc7, rfl, s7.tr s711 I.ok k7, k11, v7.trans (s711.v k7.sub), hO11, hL11, hD11, racc7.mono s711.pre (s711.ext k7.sub), J7.step s711 k11, v67.trans (s711.v k7.sub), VStep.refl _, rfl, Nat.le_refl _, I7.step s711 k11, I11, h11'⟩, ?_⟩
              rintro l q H12 ⟨w12, pacc12, acc12, rfl, s12, k12, v12, hO12, hL12, hD12, racc12, J12, v612, vv12, em12, hlen12, I12, K12, h12⟩
              by_cases hl : l < zs.length
              · have ez : zs.drop l = zs[l] :: zs.drop (l + 1) := (List.getElem_cons_drop hl).symm
                rw [ez] at h12
                obtain ⟨go2, yl2⟩ := (it2 l w12 vv12 k12).1 zs[l] (List.getElem?_eq_getElem hl)
                refine .inr ⟨go2, fun H' => ∃ w13 pa ac, w13.H = H' ∧ WStep w w13 ∧ WOk K w13 ∧ VStep w1 w13 ∧ D ∈ w13.O ∧ D ∉ w13.L ∧ w13.H D = some (.lst ac) ∧ RVs K w13.L w13.hc pa ac ∧ FI K G w13 (mWipe ρ vs) (wipe σ vs) ∧ VStep w6 w13 ∧ VStep w11 w13 ∧ ac.length ≤ acc7.length + (l + 1) ∧ FI K G w13 (mWipe ρ4 vs1) (wipe σ4 vs1) ∧ FI K G w13 (mWipe ρ9 vs2) (wipe σ9 vs2) ∧ Good (mLcGo fg2 ft2 fe (mWipe ρ9 vs2) (zs.drop (l + 1)) w13.S) (fun us S' => Good (mLc3B fg1 ft1 fi2 fg2 ft2 fe vs2 (mWipe ρ4 vs1) (pa ++ us) (ys.drop (j + 1)) S') (fun zs S' => Good (mLc3A fg ft fi1 fg1 ft1 fi2 fg2 ft2 fe vs1 vs2 (mWipe ρ vs) zs (xs.drop (i + 1)) S') (fun ys S' => PostN K w Q (.lst ys) S') (ExP K mg (E σ) w)) (fun _ _ _ => False)) (fun _ _ _ => False), ?_, fun v2' H' hy2 => ?_⟩
                · rintro H' ⟨w8, p8, a8, c1, c2, c3, c4, c5, c6, c7, c8, c9, c10, c11, c12, c13, c14, c15⟩
                  exact ⟨q - 1, by omega, w8, p8, a8, c1, c2, c3, c4, c5, c6, c7, c8, c9, c10, c11, by omega, c12, c13, c14, c15⟩
                · obtain ⟨w13, rfl, es13, s13, k13, r13⟩ := yl2 v2' H' hy2
                  rw [← es13] at h12
                  have I13 := K12.step s13 k13
                  have h13 := Good.nox (ex' := fun _ _ _ => False) (Good.bind1 h12)
                  refine hg2 w13 _ _ zs[l] v2' _ I13 r13 (Good.imp h13 (fun ρ14 S14 h14 => ?_) fun _ _ _ h => h)
                  intro σ14 e14 l14 f14 I14
                  subst e14
                  have wp2 := wipe_wipe σ9 σ14 vs2 (by rw [l14, wipe_length]) f14
                  refine ⟨wp2.1.trans wp2.2, ?_⟩
                  have h14' := Good.nox (ex' := ExP K mg E0 w13) (Good.bind1 h14)
                  refine ht2 w13 ρ14 σ14 _ I14 (Good.imp h14' (fun b S15 h15 => ?_) fun _ _ _ h => h)
                  intro w15 e15 s15 k15
                  subst e15
                  have s1215 := s13.tr s15 k12 k13
                  cases b with
                  | false =>
                    rw [if_neg Bool.false_ne_true] at h15 ⊢
                    exact ⟨w15, pacc12, acc12, rfl, s12.tr s1215 I.ok k12, k15, v12.trans (s1215.v k12.sub), s1215.omono D hO12, notL (K := K) s1215 hL12 hD12, s1215.keep D _ hD12 hL12, racc12.mono s1215.pre (s1215.ext k12.sub), J12.step s1215 k15, v612.trans (s1215.v k12.sub), vv12.trans (s1215.v k12.sub), by omega, I12.step s1215 k15, K12.step s1215 k15, h15⟩
                  | true =>
                    rw [if_pos rfl] at h15 ⊢
                    have h15' := Good.nox (ex' := ExP K mg E0 w15) (Good.bind1 h15)
                    refine he w15 ρ14 σ14 _ (I14.step s15 k15) (Good.imp h15' (fun y S16 h16 => ?_) fun _ _ _ h => h)
                    intro w16 u e16 s16 k16 r16
                    subst e16
                    have s1216 := s1215.tr s16 k12 k15
                    have hD16 : w16.H D = some (.lst acc12) := s1216.keep D _ hD12 hL12
                    have hL16 : D ∉ w16.L := notL (K := K) s1216 hL12 hD12
                    have hO16 := s1216.omono D hO12
                    have v17 : VStep w16 (w16.wr D (.lst (acc12 ++ [u]))) := wr_v hO16
                    have k17 := wr_ok (ho := .lst (acc12 ++ [u])) k16 hO16 hL16
                    have hlt : acc12.length < sizeM := by omega
                    refine ⟨acc12, hD16, sizeM_lt hlt, w16.wr D (.lst (acc12 ++ [u])), pacc12 ++ [y], acc12 ++ [u], rfl, wr_step (s12.tr s1216 I.ok k12) hDw, k17, (v12.trans (s1216.v k12.sub)).trans v17, hO16, hL16, by show upd w16.H D _ D = _; rw [upd_same], ?_, wrI (J12.step s1216 k16) k17 hO16 np1, (v612.trans (s1216.v k12.sub)).trans v17, (vv12.trans (s1216.v k12.sub)).trans v17, by simp; omega, wrI (I12.step s1216 k16) k17 hO16 np4, wrI (K12.step s1216 k16) k17 hO16 np9, ?_⟩
                    · rw [wr_hc hO16]
                      exact RVs.append (racc12.mono s1216.pre (s1216.ext k12.sub)) (RVs.one r16)
                    · refine Good.imp (Good.bind1 h16) (fun us S17 h17 => ?_) fun _ _ _ h => h
                      rw [List.append_assoc]
                      exact h17
              · refine .inl ⟨(it2 l w12 vv12 k12).2 (by omega), ?_⟩
                rw [List.drop_eq_nil_of_le (by omega)] at h12
                have h12 : Good (mLc3B fg1 ft1 fi2 fg2 ft2 fe vs2 (mWipe ρ4 vs1) (pacc12 ++ []) (ys.drop (j + 1)) w12.S) (fun zs S' => Good (mLc3A fg ft fi1 fg1 ft1 fi2 fg2 ft2 fe vs1 vs2 (mWipe ρ vs) zs (xs.drop (i + 1)) S') (fun ys S' => PostN K w Q (.lst ys) S') (ExP K mg (E σ) w)) (fun _ _ _ => False) := h12
                rw [List.append_nil] at h12
                exact ⟨w12, pacc12, acc12, rfl, s12, k12, v12, hO12, hL12, hD12, racc12, J12, v612, I12, h12⟩
        · refine .inl ⟨(it1 j w7 v67 k7).2 (by omega), ?_⟩
          rw [List.drop_eq_nil_of_le (by omega)] at h7
          exact ⟨w7, pacc7, acc7, rfl, s7, k7, v7, hO7, hL7, hD7, racc7, J7, h7⟩
  · refine .inl ⟨(it i w2 v2 k2').2 (by omega), ?_⟩
    rw [List.drop_eq_nil_of_le (by omega)] at h2
    have h2 : PostN K w Q (.lst pacc) w2.S := h2
    exact h2 w2 D rfl s2' k2' hDw hO hL ⟨acc, hD2, racc⟩
theorem fn_lc3 {X : Cx} {G : Wd} {E : EK} {elt tg iter tg1 iter1 tg2 iter2 : Expr} {ifs ifs1 ifs2 : List Expr} {scope : Scope} {pos : Pos} {wi g tt wi1 g1 tt1 wi2 g2 tt2 te fi fg ft fi1 fg1 ft1 fi2 fg2 ft2 fe} (own : List (Str × Nat)) (vs1 vs2 : List Nat) (hc : X.calm = true) (hN : X.N.Nodup) (ok : BlkOk X.N X.env.scope scope own) (hv : ∀ (i : Nat), i ∈ vs1 → i ∈ own.map (·.2)) (hv2 : ∀ (i : Nat), i ∈ vs2 → i ∈ vs1) (hi : FIt X G E tg iter wi fi) (hno : NoOwn fg) (hno1 : NoOwn fg1)
    (hg : ∀ (s : Shared) (H : Hp) (C : Addr) (cl : List (Str × Addr)) (fp : List Addr), FGt (X.blk s H scope (compEnvC scope cl C X.env) fp) G tg g fg (own.map (·.2))) (ht : ∀ (s : Shared) (H : Hp) (C : Addr) (cl : List (Str × Addr)) (fp : List Addr), FTs (X.blk s H scope (compEnvC scope cl C X.env) fp) G (fun _ => E0) ifs tt ft)
    (hi1 : ∀ (s : Shared) (H : Hp) (C : Addr) (cl : List (Str × Addr)) (fp : List Addr), FIt (X.blk s H scope (compEnvC scope cl C X.env) fp) G (fun _ => E0) tg1 iter1 wi1 fi1) (hg1 : ∀ (s : Shared) (H : Hp) (C : Addr) (cl : List (Str × Addr)) (fp : List Addr), FGt (X.blk s H scope (compEnvC scope cl C X.env) fp) G tg1 g1 fg1 vs1) (ht1 : ∀ (s : Shared) (H : Hp) (C : Addr) (cl : List (Str × Addr)) (fp : List Addr), FTs (X.blk s H scope (compEnvC scope cl C X.env) fp) G (fun _ => E0) ifs1 tt1 ft1)
    (hi2 : ∀ (s : Shared) (H : Hp) (C : Addr) (cl : List (Str × Addr)) (fp : List Addr), FIt (X.blk s H scope (compEnvC scope cl C X.env) fp) G (fun _ => E0) tg2 iter2 wi2 fi2) (hg2 : ∀ (s : Shared) (H : Hp) (C : Addr) (cl : List (Str × Addr)) (fp : List Addr), FGt (X.blk s H scope (compEnvC scope cl C X.env) fp) G tg2 g2 fg2 vs2) (ht2 : ∀ (s : Shared) (H : Hp) (C : Addr) (cl : List (Str × Addr)) (fp : List Addr), FTs (X.blk s H scope (compEnvC scope cl C X.env) fp) G (fun _ => E0) ifs2 tt2 ft2)
    (he : ∀ (s : Shared) (H : Hp) (C : Addr) (cl : List (Str × Addr)) (fp : List Addr), FE (X.blk s H scope (compEnvC scope cl C X.env) fp) G (fun _ => E0) elt te fe) (hs : ∀ x, foldedSetIterable iter X.env x = pure x := by intro _; rfl) (hs1 : ∀ (env : Env) (x : Value), foldedSetIterable iter1 env x = pure x := by intro _ _; rfl) (hs2 : ∀ (env : Env) (x : Value), foldedSetIterable iter2 env x = pure x := by intro _ _; rfl) :
    FN X G E (.ListComp elt [⟨tg, iter, ifs, 0⟩, ⟨tg1, iter1, ifs1, 0⟩, ⟨tg2, iter2, ifs2, 0⟩] scope pos) (tLc3 wi g tt wi1 g1 tt1 wi2 g2 tt2 te (own.map (·.2)) vs1 vs2) (mLc3 fi fg ft fi1 fg1 ft1 fi2 fg2 ft2 fe (own.map (·.2)) vs1 vs2) :=
  ⟨pe_lc3 hc hN hi.pe ok hv hv2 (fun s H C cl fp => (hg s H C cl fp).pe) (fun s H C cl fp => (ht s H C cl fp).pe) (fun s H C cl fp => (hi1 s H C cl fp).pe) (fun s H C cl fp => (hg1 s H C cl fp).pe) (fun s H C cl fp => (ht1 s H C cl fp).pe) (fun s H C cl fp => (hi2 s H C cl fp).pe) (fun s H C cl fp => (hg2 s H C cl fp).pe) (fun s H C cl fp => (ht2 s H C cl fp).pe) (fun s H C cl fp => (he s H C cl fp).pe) hs hs1 hs2,
   sim_lc3 hi.sim hno (hg X.s_0 X.H_0 0 [] []).sim (ht X.s_0 X.H_0 0 [] []).sim (hi1 X.s_0 X.H_0 0 [] []).sim hno1 (hg1 X.s_0 X.H_0 0 [] []).sim (ht1 X.s_0 X.H_0 0 [] []).sim (hi2 X.s_0 X.H_0 0 [] []).sim (hg2 X.s_0 X.H_0 0 [] []).sim (ht2 X.s_0 X.H_0 0 [] []).sim (he X.s_0 X.H_0 0 [] []).sim⟩
section
variable {it : Rho → Store → Res (List PV)} {g : PV → Rho → Store → Res Rho} {t : Rho → Store → Res Bool} {it1 : Rho → Store → Res (List PV)} {g1 : PV → Rho → Store → Res Rho} {t1 : Rho → Store → Res Bool} {it2 : Rho → Store → Res (List PV)} {g2 : PV → Rho → Store → Res Rho} {t2 : Rho → Store → Res Bool} {e : Rho → Store → Res PV} {vs vs1 vs2 : List Nat} {ρ : Rho} {S : Store}
end
end Mir
set_option maxHeartbeats 4000000
namespace K35
open PySem PySem.Spec PyProof.Rows L2 Mir
theorem sc_is_below : FnScope ["value", "limit"] ["value", "limit"] (defScope s_is_below) := ⟨rfl, rfl, rfl, by decide +kernel, rfl, by decide +kernel, by decide +kernel⟩
theorem sc_is_row : FnScope ["value", "size", "one"] ["value", "size"] (defScope s_is_row) := ⟨rfl, rfl, rfl, by decide +kernel, rfl, by decide +kernel, by decide +kernel⟩
theorem sc_are_rows : FnScope ["rows", "size", "row"] ["rows", "size"] (defScope s_are_rows) := ⟨rfl, rfl, rfl, by decide +kernel, rfl, by decide +kernel, by decide +kernel⟩
theorem sc_fulfils : FnScope ["row", "clause", "place"] ["row", "clause"] (defScope s_fulfils) := ⟨rfl, rfl, rfl, by decide +kernel, rfl, by decide +kernel, by decide +kernel⟩
theorem sc_all_rows : FnScope ["size", "rows", "_", "row", "value"] ["size"] (defScope s_all_rows) := ⟨rfl, rfl, rfl, by decide +kernel, rfl, by decide +kernel, by decide +kernel⟩
theorem sc_all_places : FnScope ["size", "row", "place"] ["size"] (defScope s_all_places) := ⟨rfl, rfl, rfl, by decide +kernel, rfl, by decide +kernel, by decide +kernel⟩
theorem sc_thinned : FnScope ["relation", "clauses", "fit", "taken", "row", "barring", "clause"] ["relation", "clauses"] (defScope s_thinned) := ⟨rfl, rfl, rfl, by decide +kernel, rfl, by decide +kernel, by decide +kernel⟩
theorem sc_every_if : FnScope ["size", "clauses", "places", "place"] ["size"] (defScope s_every_if) := ⟨rfl, rfl, rfl, by decide +kernel, rfl, by decide +kernel, by decide +kernel⟩
theorem sc_every_pair : FnScope ["size", "values", "j", "i", "one", "two"] ["size"] (defScope s_every_pair) := ⟨rfl, rfl, rfl, by decide +kernel, rfl, by decide +kernel, by decide +kernel⟩
theorem sc_pair_clauses : FnScope ["relation"] ["relation"] (defScope s_pair_clauses) := ⟨rfl, rfl, rfl, by decide +kernel, rfl, by decide +kernel, by decide +kernel⟩
theorem sc__law_draws : FnScope ["script", "many", "rests", "draws", "k", "cell", "mixed", "at"] ["script", "many"] (defScope s__law_draws) := ⟨rfl, rfl, rfl, by decide +kernel, rfl, by decide +kernel, by decide +kernel⟩
theorem sc__law_take : FnScope ["hand", "many", "at", "draws"] ["hand", "many"] (defScope s__law_take) := ⟨rfl, rfl, rfl, by decide +kernel, rfl, by decide +kernel, by decide +kernel⟩
theorem sc__law_all_rows : FnScope ["many", "rows", "k", "longer", "row"] ["many"] (defScope s__law_all_rows) := ⟨rfl, rfl, rfl, by decide +kernel, rfl, by decide +kernel, by decide +kernel⟩
theorem sc__law_table : FnScope ["word", "tables"] ["word"] (defScope s__law_table) := ⟨rfl, rfl, rfl, by decide +kernel, rfl, by decide +kernel, by decide +kernel⟩
theorem sc__law_made : FnScope ["table", "rows", "x", "y", "z"] ["table", "rows"] (defScope s__law_made) := ⟨rfl, rfl, rfl, by decide +kernel, rfl, by decide +kernel, by decide +kernel⟩
theorem sc__law_chosen : FnScope ["rows", "table", "chosen", "k", "longer", "some", "row"] ["rows", "table"] (defScope s__law_chosen) := ⟨rfl, rfl, rfl, by decide +kernel, rfl, by decide +kernel, by decide +kernel⟩
theorem sc__law_closed : FnScope ["rows", "table", "found", "known", "every", "turn", "more", "some", "row", "k"] ["rows", "table"] (defScope s__law_closed) := ⟨rfl, rfl, rfl, by decide +kernel, rfl, by decide +kernel, by decide +kernel⟩
theorem sc__law_fulfils : FnScope ["row", "clause", "values", "k"] ["row", "clause"] (defScope s__law_fulfils) := ⟨rfl, rfl, rfl, by decide +kernel, rfl, by decide +kernel, by decide +kernel⟩
theorem sc__law_told : FnScope ["size", "clauses", "found", "row", "clause"] ["size", "clauses"] (defScope s__law_told) := ⟨rfl, rfl, rfl, by decide +kernel, rfl, by decide +kernel, by decide +kernel⟩
theorem sc__law_any : FnScope ["hand", "size", "every", "rows", "k", "row"] ["hand"] (defScope s__law_any) := ⟨rfl, rfl, rfl, by decide +kernel, rfl, by decide +kernel, by decide +kernel⟩
theorem sc__law_is_number : FnScope ["value", "most"] ["value", "most"] (defScope s__law_is_number) := ⟨rfl, rfl, rfl, by decide +kernel, rfl, by decide +kernel, by decide +kernel⟩
theorem sc__law_are_places : FnScope ["size", "value", "k"] ["size", "value"] (defScope s__law_are_places) := ⟨rfl, rfl, rfl, by decide +kernel, rfl, by decide +kernel, by decide +kernel⟩
theorem sc__law_is_clause : FnScope ["size", "clause"] ["size", "clause"] (defScope s__law_is_clause) := ⟨rfl, rfl, rfl, by decide +kernel, rfl, by decide +kernel, by decide +kernel⟩
theorem sc_law : FnScope ["script", "hand", "t", "size", "rows", "relation", "clauses", "closed", "due", "clause", "row"] ["script"] (defScope s_law) := ⟨rfl, rfl, rfl, by decide +kernel, rfl, by decide +kernel, by decide +kernel⟩
noncomputable section
def b_is_below : Rho → Store → Res Out :=
  (mRet (mAndV (mIsi "int" (mVar 0)) (mAndV (mNotV (mIsi "bool" (mVar 0))) (mChain gLe gLt (mC (.int 0)) (mVar 0) (mVar 1)))))
def m_is_below : List PV → Store → Res PV := mDef 2 b_is_below
def b_is_row : Rho → Store → Res Out :=
  (mSeq (mIfS (mOr (mNot (mB (mIsi "tuple" (mVar 0)))) (mB (mOp (gEqD true) (mArgs gLen (mCons (mVar 0) mNil)) (mVar 1))))
    (mRet (mC (.bl false)))
    mSkip)
    (mSeq (mFor (mSeqOf (mVar 0)) (gNm 2)
    (mIfS (mNot (mB (mCall 2 m_is_below [] (mCons (mVar 2) (mCons (mC (.int 2)) mNil)))))
    (mRet (mC (.bl false)))
    mSkip))
    (mRet (mC (.bl true)))))
def m_is_row : List PV → Store → Res PV := mDef 3 b_is_row
def b_are_rows : Rho → Store → Res Out :=
  (mSeq (mIfS (mOr (mNot (mB (mIsiT ["list", "tuple"] (mVar 0)))) (mB (mOp (gEqD false) (mArgs gLen (mCons (mVar 0) mNil)) (mC (.int 0)))))
    (mRet (mC (.bl false)))
    mSkip)
    (mSeq (mFor (mSeqOf (mVar 0)) (gNm 2)
    (mIfS (mNot (mB (mCall 2 m_is_row [] (mCons (mVar 2) (mCons (mVar 1) mNil)))))
    (mRet (mC (.bl false)))
    mSkip))
    (mRet (mC (.bl true)))))
def m_are_rows : List PV → Store → Res PV := mDef 3 b_are_rows
def gs_Relation : List (Rho → Store → Res Unit) := [(mGuard (mOr (mNot (mB (mCall 2 m_is_below [] (mCons (mVar 1) (mCons (mOp gAddA (mC c_MOST_PLACES) (mC (.int 1))) mNil))))) (mOr (mB (mOp (gEqD false) (mVar 1) (mC (.int 0)))) (mNot (mB (mCall 2 m_are_rows [] (mCons (mVar 2) (mCons (mVar 1) mNil))))))) (mRaise "InvalidRelation" ["value"] (mCons (mArgs gTup (mCons (mVar 1) (mCons (mVar 2) mNil))) mNil)))]
def fs_Relation : List (Rho → Store → Res PV) := [(mVar 1),
  (mArgs gTuple (mCons (mFrz (mSortD 1000000 (mSeqOf (mVar 2)) (gNm 3) mTrue (mVar 3) (mC (.bl true)) [3])) mNil))]
def mi_Relation : List PV → Store → Res (List PV) := mInit 4 gs_Relation fs_Relation
def b_fulfils : Rho → Store → Res Out :=
  (mSeq (mIfS (mB (mOp (gEqD false) (mOp gIx (mVar 1) (mC (.int 0))) (mC (.str "if"))))
    (mSeq (mIfS (mAnd (mB (mOp (gEqD false) (mArgs gLen (mCons (mVar 1) mNil)) (mC (.int 3)))) (mB (mOp (gEqD false) (mOp gIx (mVar 0) (mOp gIx (mVar 1) (mC (.int 2)))) (mC (.int 1)))))
    (mRet (mC (.bl true)))
    mSkip)
    (mRet (mArgs gAny (mCons (mFrz (mLc (mSeqOf (mOp gIx (mVar 1) (mC (.int 1)))) (gNm 2) mTrue (mOp (gEqD false) (mOp gIx (mVar 0) (mVar 2)) (mC (.int 0))) [2])) mNil))))
    mSkip)
    (mSeq (mIfS (mB (mOp (gEqD false) (mOp gIx (mVar 1) (mC (.int 0))) (mC (.str "pair"))))
    (mRet (mOrV (mOp (gEqD true) (mOp gIx (mVar 0) (mOp gIx (mVar 1) (mC (.int 1)))) (mOp gIx (mVar 1) (mC (.int 3)))) (mOp (gEqD true) (mOp gIx (mVar 0) (mOp gIx (mVar 1) (mC (.int 2)))) (mOp gIx (mVar 1) (mC (.int 4))))))
    mSkip)
    (mRet (mOp (gEqD false) (mOp gMod (mArgs gSum (mCons (mFrz (mLc (mSeqOf (mOp gIx (mVar 1) (mC (.int 1)))) (gNm 2) mTrue (mOp gIx (mVar 0) (mVar 2)) [2])) mNil)) (mC (.int 2))) (mOp gIx (mVar 1) (mC (.int 2)))))))
def m_fulfils : List PV → Store → Res PV := mDef 3 b_fulfils
def b_all_rows : Rho → Store → Res Out :=
  (mSeq (mSet 1 (mFrz (mArgs gLst (mCons (mArgs gTup mNil) mNil))))
    (mSeq (mFor (mRange gRange1 (mCons (mVar 0) mNil)) (gNm 2)
    (mSet 1 (mFrz (mLc2 (mSeqOf (mVar 1)) (gNm 3) mTrue (mSeqOf (mArgs gTup (mCons (mC (.int 0)) (mCons (mC (.int 1)) mNil)))) (gNm 4) mTrue (mOp gAddA (mVar 3) (mArgs gTup (mCons (mVar 4) mNil))) [3, 4] [4]))))
    (mRet (mVar 1))))
def m_all_rows : List PV → Store → Res PV := mDef 5 b_all_rows
def b_all_places : Rho → Store → Res Out :=
  (mRet (mFrz (mLc (mSeqOf (mCall 1 m_all_rows [] (mCons (mVar 0) mNil))) (gNm 1) mTrue (mArgs gTuple (mCons (mFrz (mLc (mRange gRange1 (mCons (mVar 0) mNil)) (gNm 2) (mB (mOp (gEqD false) (mOp gIx (mVar 1) (mVar 2)) (mC (.int 1)))) (mVar 2) [2])) mNil)) [1])))
def m_all_places : List PV → Store → Res PV := mDef 3 b_all_places
def b_thinned : Rho → Store → Res Out :=
  (mSeq (mSet 2 (mFrz (mLc (mSeqOf (mVar 1)) (gNm 6) (mB (mArgs gAll (mCons (mFrz (mLc (mSeqOf (mFldI "Relation" "rows" (mVar 0))) (gNm 4) mTrue (mCall 2 m_fulfils [] (mCons (mVar 4) (mCons (mVar 6) mNil))) [4])) mNil))) (mVar 6) [6])))
    (mSeq (mShare 3 (mArgs gLst mNil))
    (mSeq (mFor (mSeqOf (mCall 1 m_all_rows [] (mCons (mFldI "Relation" "size" (mVar 0)) mNil))) (gNm 4)
    (mIfS (mB (mArgs gAll (mCons (mFrz (mLcX (mVar 3) (gNm 6) mTrue (mCall 2 m_fulfils [] (mCons (mVar 4) (mCons (mVar 6) mNil))) [6])) mNil)))
    (mSeq (mSet 5 (mFrz (mLc (mSeqOf (mVar 2)) (gNm 6) (mNot (mB (mCall 2 m_fulfils [] (mCons (mVar 4) (mCons (mVar 6) mNil))))) (mVar 6) [6])))
    (mDrop (mExtE (mVar 3) (mSl gSl (mVar 5) (fun _ S => .ok none S) (mPart (mC (.int 1)))))))
    mSkip))
    (mRet (mAsT (mArgs gTupleP (mCons (mVar 3) mNil)))))))
def m_thinned : List PV → Store → Res PV := gcM (mDef 7 b_thinned)
def b_every_if : Rho → Store → Res Out :=
  (mSeq (mSetOwn 1 (mArgs gLst mNil))
    (mSeq (mFor (mSeqOf (mFrz (mArgs gSortLen (mCons (mCall 1 m_all_places [] (mCons (mVar 0) mNil)) mNil)))) (gNm 2)
    (mSeq (mIfS (mTru (mVar 2))
    (mAppend 1 (mArgs gTup (mCons (mC (.str "if")) (mCons (mVar 2) mNil))))
    mSkip)
    (mExtend 1 (mFrz (mLc (mRange gRange1 (mCons (mVar 0) mNil)) (gNm 3) (mB (mOp (gInD true) (mVar 3) (mVar 2))) (mArgs gTup (mCons (mC (.str "if")) (mCons (mVar 2) (mCons (mVar 3) mNil)))) [3])))))
    (mRetOwn 1)))
def m_every_if : List PV → Store → Res PV := mDef 4 b_every_if
def b_every_pair : Rho → Store → Res Out :=
  (mSeq (mSet 1 (mCall 1 m_all_rows [] (mCons (mC (.int 2)) mNil)))
    (mRet (mFrz (mLc3 (mRange gRange1 (mCons (mVar 0) mNil)) (gNm 2) mTrue (mRange gRange1 (mCons (mVar 2) mNil)) (gNm 3) mTrue (mSeqOf (mVar 1)) (gTupM 2 (gsCons (gNm 4) (gsCons (gNm 5) gsNil))) mTrue (mArgs gTup (mCons (mC (.str "pair")) (mCons (mVar 3) (mCons (mVar 2) (mCons (mVar 4) (mCons (mVar 5) mNil)))))) [2, 3, 4, 5] [3, 4, 5] [4, 5]))))
def m_every_pair : List PV → Store → Res PV := mDef 6 b_every_pair
def b_pair_clauses : Rho → Store → Res Out :=
  (mSeq (mIfS (mB (mOp (gEqD false) (mFldI "Relation" "size" (mVar 0)) (mC (.int 1))))
    (mRet (mCall 2 m_thinned [] (mCons (mVar 0) (mCons (mCall 1 m_every_if [] (mCons (mC (.int 1)) mNil)) mNil))))
    mSkip)
    (mRet (mCall 2 m_thinned [] (mCons (mVar 0) (mCons (mCall 1 m_every_pair [] (mCons (mFldI "Relation" "size" (mVar 0)) mNil)) mNil)))))
def m_pair_clauses : List PV → Store → Res PV := mDef 1 b_pair_clauses
def b__law_draws : Rho → Store → Res Out :=
  (mSeq (mSetOwn 2 (mLc (mSeqOf (mVar 0)) (gNm 5) mTrue (mArgs gAbs (mCons (mArgs gInt (mCons (mVar 5) mNil)) mNil)) [5]))
    (mSeq (mSetOwn 3 (mArgs gLst mNil))
    (mSeq (mFor (mRange gRange1 (mCons (mVar 1) mNil)) (gNm 4)
    (mSeq (mSet 5 (mVar 4))
    (mSeq (mIfS (mB (mOp gGt (mArgs gLen (mCons (mVar 0) mNil)) (mC (.int 0))))
    (mSeq (mSet 7 (mOp gMod (mVar 4) (mArgs gLen (mCons (mVar 0) mNil))))
    (mSeq (mSet 5 (mArgs gInt (mCons (mOp gIx (mVar 0) (mVar 7)) mNil)))
    (mIfS (mAnd (mB (mOp gGeA (mVar 5) (mOp gPow (mC (.int 10)) (mC (.int 18))))) (mB (mOp gGt (mIxOwn 2 (mVar 7)) (mC (.int 0)))))
    (mSeq (mAppend 3 (mOp gMod (mArgs gInt (mCons (mIxOwn 2 (mVar 7)) mNil)) (mC (.int 1000003))))
    (mSeq (mSetIx 2 (mVar 7) (mOp gFdiv (mArgs gInt (mCons (mIxOwn 2 (mVar 7)) mNil)) (mC (.int 1000003))))
    mCnt))
    mSkip)))
    mSkip)
    (mSeq (mSet 6 (mOp gMod (mArgs gInt (mCons (mOp gAddA (mOp gAddA (mOp gMulA (mVar 5) (mC (.int 48271))) (mOp gMulA (mVar 4) (mC (.int 69621)))) (mC (.int 11))) mNil)) (mC (.int 2147483647))))
    (mSeq (mSet 6 (mOp gMod (mArgs gInt (mCons (mOp gAddA (mOp gFdiv (mOp gMulA (mVar 6) (mVar 6)) (mC (.int 4096))) (mVar 6)) mNil)) (mC (.int 2147483629))))
    (mAppend 3 (mOp gMod (mArgs gInt (mCons (mOp gAddA (mOp gFdiv (mOp gMulA (mVar 6) (mVar 6)) (mC (.int 4096))) (mOp gMulA (mVar 4) (mC (.int 7919)))) mNil)) (mC (.int 2147483629)))))))))
    (mFrzS 2 (mRetOwn 3)))))
def m__law_draws : List PV → Store → Res PV := mDef 8 b__law_draws
def b__law_take : Rho → Store → Res Out :=
  (mSeq (mSet 2 (mOp gIx (mVar 0) (mC (.int 1))))
    (mSeq (mSetIx 0 (mC (.int 1)) (mOp gAddA (mVar 2) (mC (.int 1))))
    (mSeq (mSet 3 (mOp gIx (mVar 0) (mC (.int 0))))
    (mSeq (mIfS (mB (mOp gGeA (mVar 2) (mArgs gLen (mCons (mVar 3) mNil))))
    (mRet (mC (.int 0)))
    mSkip)
    (mRet (mOp gMod (mOp gFdiv (mArgs gInt (mCons (mOp gIx (mVar 3) (mVar 2)) mNil)) (mC (.int 7))) (mVar 1)))))))
def m__law_take : List PV → Store → Res PV := mDef 4 b__law_take
def b__law_all_rows : Rho → Store → Res Out :=
  (mSeq (mSet 1 (mFrz (mArgs gLst (mCons (mArgs gTup mNil) mNil))))
    (mSeq (mFor (mRange gRange1 (mCons (mVar 0) mNil)) (gNm 2)
    (mSeq (mSet 3 (mFrz (mArgs gLst mNil)))
    (mSeq (mFor (mSeqOf (mVar 1)) (gNm 4)
    (mSet 3 (mOp gAddA (mVar 3) (mFrz (mArgs gLst (mCons (mOp gAddA (mVar 4) (mArgs gTup (mCons (mC (.int 0)) mNil))) (mCons (mOp gAddA (mVar 4) (mArgs gTup (mCons (mC (.int 1)) mNil))) mNil)))))))
    (mSet 1 (mVar 3)))))
    (mRet (mVar 1))))
def m__law_all_rows : List PV → Store → Res PV := mDef 5 b__law_all_rows
def b__law_table : Rho → Store → Res Out :=
  (mSeq (mSet 1 (mFrz (mArgs gLst (mCons (mArgs gTup (mCons (mC (.int 0)) (mCons (mC (.int 0)) mNil))) (mCons (mArgs gTup (mCons (mC (.int 1)) (mCons (mC (.int 1)) mNil))) (mCons (mArgs gTup (mCons (mC (.int 0)) (mCons (mC (.int 0)) (mCons (mC (.int 0)) (mCons (mC (.int 1)) mNil))))) (mCons (mArgs gTup (mCons (mC (.int 0)) (mCons (mC (.int 1)) (mCons (mC (.int 1)) (mCons (mC (.int 1)) mNil))))) (mCons (mArgs gTup (mCons (mC (.int 0)) (mCons (mC (.int 0)) (mCons (mC (.int 0)) (mCons (mC (.int 1)) (mCons (mC (.int 0)) (mCons (mC (.int 1)) (mCons (mC (.int 1)) (mCons (mC (.int 1)) mNil))))))))) (mCons (mArgs gTup (mCons (mC (.int 0)) (mCons (mC (.int 1)) (mCons (mC (.int 1)) (mCons (mC (.int 0)) (mCons (mC (.int 1)) (mCons (mC (.int 0)) (mCons (mC (.int 0)) (mCons (mC (.int 1)) mNil))))))))) mNil)))))))))
    (mRet (mOp gIx (mVar 1) (mIndex (mFrz (mArgs gLst (mCons (mC (.str "all no")) (mCons (mC (.str "all yes")) (mCons (mC (.str "and")) (mCons (mC (.str "or")) (mCons (mC (.str "majority")) (mCons (mC (.str "odd one")) mNil)))))))) (mCons (mVar 0) mNil)))))
def m__law_table : List PV → Store → Res PV := mDef 2 b__law_table
def b__law_made : Rho → Store → Res Out :=
  (mSeq (mIfS (mB (mOp (gEqD false) (mArgs gLen (mCons (mVar 1) mNil)) (mC (.int 1))))
    (mRet (mArgs gTuple (mCons (mFrz (mLc (mSeqOf (mOp gIx (mVar 1) (mC (.int 0)))) (gNm 2) mTrue (mOp gIx (mVar 0) (mVar 2)) [2])) mNil)))
    mSkip)
    (mSeq (mIfS (mB (mOp (gEqD false) (mArgs gLen (mCons (mVar 1) mNil)) (mC (.int 2))))
    (mRet (mArgs gTuple (mCons (mFrz (mLc (mRange gZipA (mCons (mOp gIx (mVar 1) (mC (.int 0))) (mCons (mOp gIx (mVar 1) (mC (.int 1))) mNil))) (gTupM 2 (gsCons (gNm 2) (gsCons (gNm 3) gsNil))) mTrue (mOp gIx (mVar 0) (mOp gAddA (mOp gMulA (mC (.int 2)) (mVar 2)) (mVar 3))) [2, 3])) mNil)))
    mSkip)
    (mRet (mArgs gTuple (mCons (mFrz (mLc (mRange gZip3 (mCons (mOp gIx (mVar 1) (mC (.int 0))) (mCons (mOp gIx (mVar 1) (mC (.int 1))) (mCons (mOp gIx (mVar 1) (mC (.int 2))) mNil)))) (gTupM 3 (gsCons (gNm 2) (gsCons (gNm 3) (gsCons (gNm 4) gsNil)))) mTrue (mOp gIx (mVar 0) (mOp gAddA (mOp gAddA (mOp gMulA (mC (.int 4)) (mVar 2)) (mOp gMulA (mC (.int 2)) (mVar 3))) (mVar 4))) [2, 3, 4])) mNil)))))
def m__law_made : List PV → Store → Res PV := mDef 5 b__law_made
def b__law_chosen : Rho → Store → Res Out :=
  (mSeq (mSet 2 (mFrz (mArgs gLst (mCons (mArgs gTup mNil) mNil))))
    (mSeq (mFor (mRange gRange1 (mCons (mOp gAddA (mIndex (mFrz (mArgs gLst (mCons (mC (.int 2)) (mCons (mC (.int 4)) (mCons (mC (.int 8)) mNil))))) (mCons (mArgs gLen (mCons (mVar 1) mNil)) mNil)) (mC (.int 1))) mNil)) (gNm 3)
    (mSeq (mSet 4 (mFrz (mArgs gLst mNil)))
    (mSeq (mFor (mSeqOf (mVar 2)) (gNm 5)
    (mSet 4 (mOp gAddA (mVar 4) (mFrz (mLc (mSeqOf (mVar 0)) (gNm 6) (mOr (mB (mOp (gEqD false) (mArgs gLen (mCons (mVar 5) mNil)) (mC (.int 0)))) (mB (mOp gGeA (mVar 6) (mOp gIx (mVar 5) (mUn gNeg (mC (.int 1))))))) (mOp gAddA (mVar 5) (mArgs gTup (mCons (mVar 6) mNil))) [6])))))
    (mSet 2 (mVar 4)))))
    (mRet (mVar 2))))
def m__law_chosen : List PV → Store → Res PV := mDef 7 b__law_chosen
def b__law_closed : Rho → Store → Res Out :=
  (mSeq (mSet 2 (mFrz (mArgs gList (mCons (mVar 0) mNil))))
    (mSeq (mSet 3 (mC (.int 0)))
    (mSeq (mSet 4 (mArgs gLen (mCons (mCall 1 m__law_all_rows [] (mCons (mArgs gLen (mCons (mOp gIx (mVar 0) (mC (.int 0))) mNil)) mNil)) mNil)))
    (mSeq (mFor (mRange gRange1 (mCons (mC (.int 16)) mNil)) (gNm 5)
    (mSeq (mSetOwn 6 (mArgs gLst mNil))
    (mSeq (mFor (mSeqOf (mCall 2 m__law_chosen [] (mCons (mFrz (mLc (mRange gRange1 (mCons (mArgs gLen (mCons (mVar 2) mNil)) mNil)) (gNm 9) mTrue (mVar 9) [9])) (mCons (mVar 1) mNil)))) (gNm 7)
    (mIfS (mB (mOp gGeA (mOp gIx (mVar 7) (mUn gNeg (mC (.int 1)))) (mVar 3)))
    (mSeq (mSet 8 (mCall 2 m__law_made [] (mCons (mVar 1) (mCons (mFrz (mLc (mSeqOf (mVar 7)) (gNm 9) mTrue (mOp gIx (mVar 2) (mVar 9)) [9])) mNil))))
    (mIfS (mAnd (mB (mOp (gInD true) (mVar 8) (mVar 2))) (mB (mInOwn true 6 (mVar 8))))
    (mAppend 6 (mVar 8))
    mSkip))
    mSkip))
    (mFrzS 6 (mSeq (mSet 3 (mArgs gLen (mCons (mVar 2) mNil)))
    (mSeq (mSet 2 (mOp gAddA (mVar 2) (mVar 6)))
    (mIfS (mOr (mB (mOp (gEqD false) (mArgs gLen (mCons (mVar 6) mNil)) (mC (.int 0)))) (mB (mOp (gEqD false) (mArgs gLen (mCons (mVar 2) mNil)) (mVar 4))))
    (mRet (mVar 2))
    mSkip)))))))
    (mRet (mVar 2))))))
def m__law_closed : List PV → Store → Res PV := mDef 10 b__law_closed
def b__law_fulfils : Rho → Store → Res Out :=
  (mSeq (mIfS (mB (mOp (gEqD false) (mOp gIx (mVar 1) (mC (.int 0))) (mC (.str "pair"))))
    (mRet (mOrV (mOp (gEqD true) (mOp gIx (mVar 0) (mOp gIx (mVar 1) (mC (.int 1)))) (mOp gIx (mVar 1) (mC (.int 3)))) (mOp (gEqD true) (mOp gIx (mVar 0) (mOp gIx (mVar 1) (mC (.int 2)))) (mOp gIx (mVar 1) (mC (.int 4))))))
    mSkip)
    (mSeq (mSet 2 (mFrz (mLc (mSeqOf (mOp gIx (mVar 1) (mC (.int 1)))) (gNm 3) mTrue (mOp gIx (mVar 0) (mVar 3)) [3])))
    (mSeq (mIfS (mB (mOp (gEqD false) (mOp gIx (mVar 1) (mC (.int 0))) (mC (.str "sum"))))
    (mRet (mOp (gEqD false) (mOp gMod (mArgs gInt (mCons (mArgs gSum (mCons (mVar 2) mNil)) mNil)) (mC (.int 2))) (mOp gIx (mVar 1) (mC (.int 2)))))
    mSkip)
    (mRet (mOrV (mOp (gInD false) (mC (.int 0)) (mVar 2)) (mAndV (mOp (gEqD false) (mArgs gLen (mCons (mVar 1) mNil)) (mC (.int 3))) (mOp (gEqD false) (mOp gIx (mVar 0) (mOp gIx (mVar 1) (mC (.int 2)))) (mC (.int 1)))))))))
def m__law_fulfils : List PV → Store → Res PV := mDef 4 b__law_fulfils
def b__law_told : Rho → Store → Res Out :=
  (mSeq (mSetOwn 2 (mArgs gLst mNil))
    (mSeq (mFor (mSeqOf (mCall 1 m__law_all_rows [] (mCons (mVar 0) mNil))) (gNm 3)
    (mIfS (mB (mOp (gEqD false) (mArgs gLen (mCons (mFrz (mLc (mSeqOf (mVar 1)) (gNm 4) (mNot (mB (mCall 2 m__law_fulfils [] (mCons (mVar 3) (mCons (mVar 4) mNil))))) (mVar 4) [4])) mNil)) (mC (.int 0))))
    (mAppend 2 (mVar 3))
    mSkip))
    (mFrzS 2 (mRet (mArgs gTup (mCons (mVar 0) (mCons (mArgs gTuple (mCons (mVar 2) mNil)) mNil)))))))
def m__law_told : List PV → Store → Res PV := mDef 5 b__law_told
def b__law_any : Rho → Store → Res Out :=
  (mSeq (mSet 1 (mOp gAddA (mC (.int 1)) (mCall 2 m__law_take [] (mCons (mVar 0) (mCons (mC (.int 4)) mNil)))))
    (mSeq (mSet 2 (mCall 1 m__law_all_rows [] (mCons (mVar 1) mNil)))
    (mSeq (mSetOwn 3 (mArgs gLst mNil))
    (mSeq (mFor (mRange gRange1 (mCons (mOp gIx (mFrz (mArgs gLst (mCons (mOp gAddA (mC (.int 1)) (mCall 2 m__law_take [] (mCons (mVar 0) (mCons (mC (.int 4)) mNil)))) (mCons (mOp gAddA (mC (.int 1)) (mCall 2 m__law_take [] (mCons (mVar 0) (mCons (mC (.int 4)) mNil)))) (mCons (mOp gAddA (mC (.int 1)) (mCall 2 m__law_take [] (mCons (mVar 0) (mCons (mC (.int 9)) mNil)))) mNil))))) (mCall 2 m__law_take [] (mCons (mVar 0) (mCons (mC (.int 3)) mNil)))) mNil)) (gNm 4)
    (mAppend 3 (mOp gIx (mVar 2) (mCall 2 m__law_take [] (mCons (mVar 0) (mCons (mArgs gLen (mCons (mVar 2) mNil)) mNil))))))
    (mFrzS 3 (mRet (mArgs gTup (mCons (mVar 1) (mCons (mArgs gTuple (mCons (mFrz (mLc (mSeqOf (mVar 2)) (gNm 5) (mB (mOp (gInD false) (mVar 5) (mVar 3))) (mVar 5) [5])) mNil)) mNil)))))))))
def m__law_any : List PV → Store → Res PV := mDef 6 b__law_any
def b__law_is_number : Rho → Store → Res Out :=
  (mRet (mAndV (mIsi "int" (mVar 0)) (mAndV (mNotV (mIsi "bool" (mVar 0))) (mAndV (mOp gGeA (mVar 0) (mC (.int 0))) (mOp gLt (mVar 0) (mVar 1))))))
def m__law_is_number : List PV → Store → Res PV := mDef 2 b__law_is_number
def b__law_are_places : Rho → Store → Res Out :=
  (mSeq (mIfS (mOr (mNot (mB (mIsi "tuple" (mVar 1)))) (mB (mOp gGt (mArgs gLen (mCons (mFrz (mLc (mSeqOf (mVar 1)) (gNm 2) (mNot (mB (mCall 2 m__law_is_number [] (mCons (mVar 2) (mCons (mVar 0) mNil))))) (mVar 2) [2])) mNil)) (mC (.int 0)))))
    (mRet (mC (.bl false)))
    mSkip)
    (mRet (mOp (gEqD false) (mArgs gLen (mCons (mFrz (mLc (mRange gRange2 (mCons (mC (.int 1)) (mCons (mArgs gLen (mCons (mVar 1) mNil)) mNil))) (gNm 2) (mB (mOp gGeA (mOp gIx (mVar 1) (mOp gSub (mVar 2) (mC (.int 1)))) (mOp gIx (mVar 1) (mVar 2)))) (mVar 2) [2])) mNil)) (mC (.int 0)))))
def m__law_are_places : List PV → Store → Res PV := mDef 3 b__law_are_places
def b__law_is_clause : Rho → Store → Res Out :=
  (mSeq (mIfS (mB (mOp (gEqD false) (mVar 0) (mC (.int 1))))
    (mSeq (mIfS (mOr (mNot (mB (mIsi "tuple" (mVar 1)))) (mOr (mB (mOp (gInD true) (mArgs gLen (mCons (mVar 1) mNil)) (mFrz (mArgs gLst (mCons (mC (.int 2)) (mCons (mC (.int 3)) mNil)))))) (mB (mOp (gEqD true) (mOp gIx (mVar 1) (mC (.int 0))) (mC (.str "if"))))))
    (mRet (mC (.bl false)))
    mSkip)
    (mRet (mAndV (mCall 2 m__law_are_places [] (mCons (mC (.int 1)) (mCons (mOp gIx (mVar 1) (mC (.int 1))) mNil))) (mOrV (mOp (gEqD false) (mArgs gLen (mCons (mVar 1) mNil)) (mC (.int 2))) (mCall 2 m__law_is_number [] (mCons (mOp gIx (mVar 1) (mC (.int 2))) (mCons (mC (.int 1)) mNil)))))))
    mSkip)
    (mSeq (mIfS (mOr (mNot (mB (mIsi "tuple" (mVar 1)))) (mOr (mB (mOp (gEqD true) (mArgs gLen (mCons (mVar 1) mNil)) (mC (.int 5)))) (mB (mOp (gEqD true) (mOp gIx (mVar 1) (mC (.int 0))) (mC (.str "pair"))))))
    (mRet (mC (.bl false)))
    mSkip)
    (mSeq (mIfS (mNot (mB (mCall 2 m__law_are_places [] (mCons (mVar 0) (mCons (mSl gSl (mVar 1) (mPart (mC (.int 1))) (mPart (mC (.int 3)))) mNil)))))
    (mRet (mC (.bl false)))
    mSkip)
    (mRet (mAndV (mCall 2 m__law_is_number [] (mCons (mOp gIx (mVar 1) (mC (.int 3))) (mCons (mC (.int 2)) mNil))) (mCall 2 m__law_is_number [] (mCons (mOp gIx (mVar 1) (mC (.int 4))) (mCons (mC (.int 2)) mNil))))))))
def m__law_is_clause : List PV → Store → Res PV := mDef 2 b__law_is_clause
def b_law : Rho → Store → Res Out :=
  (mSeq (mShare 1 (mArgs gLst (mCons (mCall 2 m__law_draws [] (mCons (mVar 0) (mCons (mC (.int 120)) mNil))) (mCons (mC (.int 0)) mNil))))
    (mSeq (mFor (mRange gRange1 (mCons (mC (.int 2)) mNil)) (gNm 2)
    (mSeq (mAsg (mCall 1 m__law_any [] (mCons (mVar 1) mNil)) (gUn 2 (gsCons (gNm 3) (gsCons (gNm 4) gsNil))))
    (mSeq (mSet 5 (mMake 2 "Relation" ["size", "rows"] mi_Relation (mCons (mVar 3) (mCons (mVar 4) mNil))))
    (mSeq (mSet 6 (mCall 1 m_pair_clauses [] (mCons (mVar 5) mNil)))
    (mSeq (mIfS (mNot (mB (mIsi "tuple" (mVar 6))))
    (mRet (mC (.bl false)))
    mSkip)
    (mSeq (mIfS (mB (mOp gGt (mArgs gLen (mCons (mFrz (mLc (mSeqOf (mVar 6)) (gNm 9) (mNot (mB (mCall 2 m__law_is_clause [] (mCons (mVar 3) (mCons (mVar 9) mNil))))) (mVar 9) [9])) mNil)) (mC (.int 0))))
    (mRet (mC (.bl false)))
    mSkip)
    (mSeq (mSet 7 (mCall 2 m__law_closed [] (mCons (mVar 4) (mCons (mCall 1 m__law_table [] (mCons (mC (.str "majority")) mNil)) mNil))))
    (mSeq (mSet 8 (mArgs gTup (mCons (mVar 3) (mCons (mArgs gTuple (mCons (mFrz (mLc (mSeqOf (mCall 1 m__law_all_rows [] (mCons (mVar 3) mNil))) (gNm 10) (mB (mOp (gInD false) (mVar 10) (mVar 7))) (mVar 10) [10])) mNil)) mNil))))
    (mSeq (mIfS (mOr (mB (mOp (gEqD true) (mCall 2 m__law_told [] (mCons (mVar 3) (mCons (mVar 6) mNil))) (mVar 8))) (mB (mOp (gEqD true) (mArgs gRepr (mCons (mArgs gTup (mCons (mFldI "Relation" "size" (mVar 5)) (mCons (mFldI "Relation" "rows" (mVar 5)) mNil))) mNil)) (mArgs gRepr (mCons (mArgs gTup (mCons (mVar 3) (mCons (mVar 4) mNil))) mNil)))))
    (mRet (mC (.bl false)))
    mSkip)
    (mIfS (mB (mOp (gEqD true) (mArgs gRepr (mCons (mCall 1 m_pair_clauses [] (mCons (mVar 5) mNil)) mNil)) (mArgs gRepr (mCons (mVar 6) mNil))))
    (mRet (mC (.bl false)))
    mSkip))))))))))
    (mRet (mC (.bl true)))))
def m_law : List PV → Store → Res PV := mDef 11 b_law
end
theorem sci_InvalidRelation : FnScope ["self", "value"] ["self", "value"] (defScope si_InvalidRelation) := ⟨rfl, rfl, rfl, by decide +kernel, rfl, by decide +kernel, by decide +kernel⟩
theorem sci_Relation : FnScope ["self", "size", "rows", "row"] ["self", "size", "rows"] (defScope si_Relation) := ⟨rfl, rfl, rfl, by decide +kernel, rfl, by decide +kernel, by decide +kernel⟩
structure Tx (w : World) (K : PySem.W.Frag) (mg : Str → Option Value) where
  C_InvalidRelation : Addr
  I_InvalidRelation : Addr
  di_InvalidRelation : FuncData
  x_InvalidRelation : XCls K mg "InvalidRelation" C_InvalidRelation I_InvalidRelation ["value"]
  Fi_InvalidRelation : Fun K "__init__" "InvalidRelation.__init__" si_InvalidRelation I_InvalidRelation di_InvalidRelation
  bi_InvalidRelation : Binds K di_InvalidRelation ["self", "value"] []
  I_Relation : Addr
  di_Relation : FuncData
  k_Relation : KCls K mg "Relation" I_Relation ["size", "rows"]
  Fi_Relation : Fun K "__init__" "Relation.__init__" si_Relation I_Relation di_Relation
  bi_Relation : Binds K di_Relation ["self", "size", "rows"] []
  f_is_below : Addr
  d_is_below : FuncData
  F_is_below : Fun K "is_below" "is_below" s_is_below f_is_below d_is_below
  g_is_below : mg "is_below" = some (.ref f_is_below)
  b_is_below : Binds K d_is_below ["value", "limit"] []
  f_is_row : Addr
  d_is_row : FuncData
  F_is_row : Fun K "is_row" "is_row" s_is_row f_is_row d_is_row
  g_is_row : mg "is_row" = some (.ref f_is_row)
  b_is_row : Binds K d_is_row ["value", "size"] []
  f_are_rows : Addr
  d_are_rows : FuncData
  F_are_rows : Fun K "are_rows" "are_rows" s_are_rows f_are_rows d_are_rows
  g_are_rows : mg "are_rows" = some (.ref f_are_rows)
  b_are_rows : Binds K d_are_rows ["rows", "size"] []
  f_fulfils : Addr
  d_fulfils : FuncData
  F_fulfils : Fun K "fulfils" "fulfils" s_fulfils f_fulfils d_fulfils
  g_fulfils : mg "fulfils" = some (.ref f_fulfils)
  b_fulfils : Binds K d_fulfils ["row", "clause"] []
  f_all_rows : Addr
  d_all_rows : FuncData
  F_all_rows : Fun K "all_rows" "all_rows" s_all_rows f_all_rows d_all_rows
  g_all_rows : mg "all_rows" = some (.ref f_all_rows)
  b_all_rows : Binds K d_all_rows ["size"] []
  f_all_places : Addr
  d_all_places : FuncData
  F_all_places : Fun K "all_places" "all_places" s_all_places f_all_places d_all_places
  g_all_places : mg "all_places" = some (.ref f_all_places)
  b_all_places : Binds K d_all_places ["size"] []
  f_thinned : Addr
  d_thinned : FuncData
  F_thinned : Fun K "thinned" "thinned" s_thinned f_thinned d_thinned
  g_thinned : mg "thinned" = some (.ref f_thinned)
  b_thinned : Binds K d_thinned ["relation", "clauses"] []
  f_every_if : Addr
  d_every_if : FuncData
  F_every_if : Fun K "every_if" "every_if" s_every_if f_every_if d_every_if
  g_every_if : mg "every_if" = some (.ref f_every_if)
  b_every_if : Binds K d_every_if ["size"] []
  f_every_pair : Addr
  d_every_pair : FuncData
  F_every_pair : Fun K "every_pair" "every_pair" s_every_pair f_every_pair d_every_pair
  g_every_pair : mg "every_pair" = some (.ref f_every_pair)
  b_every_pair : Binds K d_every_pair ["size"] []
  f_pair_clauses : Addr
  d_pair_clauses : FuncData
  F_pair_clauses : Fun K "pair_clauses" "pair_clauses" s_pair_clauses f_pair_clauses d_pair_clauses
  g_pair_clauses : mg "pair_clauses" = some (.ref f_pair_clauses)
  b_pair_clauses : Binds K d_pair_clauses ["relation"] []
  f__law_draws : Addr
  d__law_draws : FuncData
  F__law_draws : Fun K "_law_draws" "_law_draws" s__law_draws f__law_draws d__law_draws
  g__law_draws : mg "_law_draws" = some (.ref f__law_draws)
  b__law_draws : Binds K d__law_draws ["script", "many"] []
  f__law_take : Addr
  d__law_take : FuncData
  F__law_take : Fun K "_law_take" "_law_take" s__law_take f__law_take d__law_take
  g__law_take : mg "_law_take" = some (.ref f__law_take)
  b__law_take : Binds K d__law_take ["hand", "many"] []
  f__law_all_rows : Addr
  d__law_all_rows : FuncData
  F__law_all_rows : Fun K "_law_all_rows" "_law_all_rows" s__law_all_rows f__law_all_rows d__law_all_rows
  g__law_all_rows : mg "_law_all_rows" = some (.ref f__law_all_rows)
  b__law_all_rows : Binds K d__law_all_rows ["many"] []
  f__law_table : Addr
  d__law_table : FuncData
  F__law_table : Fun K "_law_table" "_law_table" s__law_table f__law_table d__law_table
  g__law_table : mg "_law_table" = some (.ref f__law_table)
  b__law_table : Binds K d__law_table ["word"] []
  f__law_made : Addr
  d__law_made : FuncData
  F__law_made : Fun K "_law_made" "_law_made" s__law_made f__law_made d__law_made
  g__law_made : mg "_law_made" = some (.ref f__law_made)
  b__law_made : Binds K d__law_made ["table", "rows"] []
  f__law_chosen : Addr
  d__law_chosen : FuncData
  F__law_chosen : Fun K "_law_chosen" "_law_chosen" s__law_chosen f__law_chosen d__law_chosen
  g__law_chosen : mg "_law_chosen" = some (.ref f__law_chosen)
  b__law_chosen : Binds K d__law_chosen ["rows", "table"] []
  f__law_closed : Addr
  d__law_closed : FuncData
  F__law_closed : Fun K "_law_closed" "_law_closed" s__law_closed f__law_closed d__law_closed
  g__law_closed : mg "_law_closed" = some (.ref f__law_closed)
  b__law_closed : Binds K d__law_closed ["rows", "table"] []
  f__law_fulfils : Addr
  d__law_fulfils : FuncData
  F__law_fulfils : Fun K "_law_fulfils" "_law_fulfils" s__law_fulfils f__law_fulfils d__law_fulfils
  g__law_fulfils : mg "_law_fulfils" = some (.ref f__law_fulfils)
  b__law_fulfils : Binds K d__law_fulfils ["row", "clause"] []
  f__law_told : Addr
  d__law_told : FuncData
  F__law_told : Fun K "_law_told" "_law_told" s__law_told f__law_told d__law_told
  g__law_told : mg "_law_told" = some (.ref f__law_told)
  b__law_told : Binds K d__law_told ["size", "clauses"] []
  f__law_any : Addr
  d__law_any : FuncData
  F__law_any : Fun K "_law_any" "_law_any" s__law_any f__law_any d__law_any
  g__law_any : mg "_law_any" = some (.ref f__law_any)
  b__law_any : Binds K d__law_any ["hand"] []
  f__law_is_number : Addr
  d__law_is_number : FuncData
  F__law_is_number : Fun K "_law_is_number" "_law_is_number" s__law_is_number f__law_is_number d__law_is_number
  g__law_is_number : mg "_law_is_number" = some (.ref f__law_is_number)
  b__law_is_number : Binds K d__law_is_number ["value", "most"] []
  f__law_are_places : Addr
  d__law_are_places : FuncData
  F__law_are_places : Fun K "_law_are_places" "_law_are_places" s__law_are_places f__law_are_places d__law_are_places
  g__law_are_places : mg "_law_are_places" = some (.ref f__law_are_places)
  b__law_are_places : Binds K d__law_are_places ["size", "value"] []
  f__law_is_clause : Addr
  d__law_is_clause : FuncData
  F__law_is_clause : Fun K "_law_is_clause" "_law_is_clause" s__law_is_clause f__law_is_clause d__law_is_clause
  g__law_is_clause : mg "_law_is_clause" = some (.ref f__law_is_clause)
  b__law_is_clause : Binds K d__law_is_clause ["size", "clause"] []
  f_law : Addr
  d_law : FuncData
  F_law : Fun K "law" "law" s_law f_law d_law
  g_law : mg "law" = some (.ref f_law)
  b_law : Binds K d_law ["script"] []
  n_abs : mg "abs" = none
  n_all : mg "all" = none
  n_any : mg "any" = none
  n_bool : mg "bool" = none
  n_int : mg "int" = none
  n_isinstance : mg "isinstance" = none
  n_len : mg "len" = none
  n_list : mg "list" = none
  n_range : mg "range" = none
  n_repr : mg "repr" = none
  n_sorted : mg "sorted" = none
  n_sum : mg "sum" = none
  n_tuple : mg "tuple" = none
  n_zip : mg "zip" = none
  v_MOST_PLACES : V
  u_MOST_PLACES : Value
  g_MOST_PLACES : mg "MOST_PLACES" = some u_MOST_PLACES
  r_MOST_PLACES : RelV v_MOST_PLACES u_MOST_PLACES
  y_MOST_PLACES : ∀ L Hc, RV K L Hc c_MOST_PLACES v_MOST_PLACES
section
variable {P : Program} {w : World} {K : PySem.W.Frag} {mg : Str → Option Value} {base : Heap}
theorem Tx.in_InvalidRelation (T : Tx w K mg) : FnOk P w K mg base (L2.CX P w) 1 T.I_InvalidRelation T.di_InvalidRelation ["self", "value"] (spI1 K "value") := ok_init1 T.Fi_InvalidRelation sci_InvalidRelation rfl (fun _ _ _ _ => trivial) (fun _ _ _ _ _ _ => pv 0) (fun _ _ _ _ _ _ => pv 1) (fun _ => rfl)
theorem Tx.ok_is_below (T : Tx w K mg) : FnG P w K mg base 1 T.f_is_below T.d_is_below ["value", "limit"] (spM K mg 2 m_is_below) := by
  refine ok_def T.F_is_below sc_is_below fun cdv A outer s H E hgd hr => ?_
  have tk := takes_def (P := P) (w := w) (K := K) (mg := mg) (base := base) (N := ["value", "limit"]) (qual := "is_below") (sc := defScope s_is_below) (f := T.f_is_below) (cd := cdv) (A := A) (outer := outer) (s := s) (H := H) (E := E)
  have hx := passAll (passes_call (E := E) tk (fun _ _ _ _ h => h))
  have hu := hu_of2 hr
  exact ⟨_, fun G => (fss_one (fs_ret (fe_and (ke_isi K (T := "int") T.n_isinstance T.n_int (fe_var (pv 0))) (fe_and (fe_not (ke_isi K (T := "bool") T.n_isinstance T.n_bool (fe_var (pv 0)))) (fe_one (fe_chain op_le op_lt (fun _ => r2_le) (fun _ => r2_lt) fe_int (fe_var (pv 0)) (fe_var (pv 1))))))))⟩
theorem Tx.ok_is_row (T : Tx w K mg) : FnG P w K mg base 2 T.f_is_row T.d_is_row ["value", "size"] (spM K mg 2 m_is_row) := by
  refine ok_def T.F_is_row sc_is_row fun cdv A outer s H E hgd hr => ?_
  have tk := takes_def (P := P) (w := w) (K := K) (mg := mg) (base := base) (N := ["value", "size", "one"]) (qual := "is_row") (sc := defScope s_is_row) (f := T.f_is_row) (cd := cdv) (A := A) (outer := outer) (s := s) (H := H) (E := E)
  have hx := passAll (passes_call (E := E) tk (fun _ _ _ _ h => h))
  have hu := hu_of2 hr
  exact ⟨_, fun G => (fss_cons (fs_if (FT.ofW (fw_or (ft_not (ft_val (ke_isi K (T := "tuple") T.n_isinstance T.n_tuple (fe_var (pv 0))))) (fw_or1 (ft_cmp (kNeD K hu) (fun _ => r2_neD) (fe_callB (kLen K) (fun _ => ra_len) T.n_len (fa_cons (fe_var (pv 0)) fa_nil)) (fe_var (pv 1))))))
    (fss_one (fs_ret fe_bl))
    fss_nil)
    (fss_cons (fs_forV own_def rfl (it_seq K (fe_var (pv 0))) (fg_name (pg_name (i := 2) sc_is_row.nd rfl (by first | exact .inl rfl | exact .inr rfl)))
    (fss_one (fs_if (ft_not (ft_val (ke_call (T.ok_is_below (P := P) (base := base)) hgd (hr.mono (by omega)) T.g_is_below T.F_is_below.kp T.b_is_below hx (fa_cons (fe_var (pv 2)) (fa_cons fe_int fa_nil)))))
    (fss_one (fs_ret fe_bl))
    fss_nil)))
    (fss_one (fs_ret fe_bl))))⟩
theorem Tx.ok_are_rows (T : Tx w K mg) : FnG P w K mg base 3 T.f_are_rows T.d_are_rows ["rows", "size"] (spM K mg 2 m_are_rows) := by
  refine ok_def T.F_are_rows sc_are_rows fun cdv A outer s H E hgd hr => ?_
  have tk := takes_def (P := P) (w := w) (K := K) (mg := mg) (base := base) (N := ["rows", "size", "row"]) (qual := "are_rows") (sc := defScope s_are_rows) (f := T.f_are_rows) (cd := cdv) (A := A) (outer := outer) (s := s) (H := H) (E := E)
  have hx := passAll (passes_call (E := E) tk (fun _ _ _ _ h => h))
  have hu := hu_of2 hr
  exact ⟨_, fun G => (fss_cons (fs_if (FT.ofW (fw_or (ft_not (ft_val (fe_isiT K T.n_isinstance (.cons (pe_bltn (v := .ty "list") (by rfl) T.n_list (by decide +kernel) rfl) (.cons (pe_bltn (v := .ty "tuple") (by rfl) T.n_tuple (by decide +kernel) rfl) .nil)) (fe_var (pv 0))))) (fw_or1 (ft_cmp (kEqD K hu) (fun _ => r2_eqD) (fe_callB (kLen K) (fun _ => ra_len) T.n_len (fa_cons (fe_var (pv 0)) fa_nil)) fe_int))))
    (fss_one (fs_ret fe_bl))
    fss_nil)
    (fss_cons (fs_forV own_def rfl (it_seq K (fe_var (pv 0))) (fg_name (pg_name (i := 2) sc_are_rows.nd rfl (by first | exact .inl rfl | exact .inr rfl)))
    (fss_one (fs_if (ft_not (ft_val (ke_call (T.ok_is_row (P := P) (base := base)) hgd (hr.mono (by omega)) T.g_is_row T.F_is_row.kp T.b_is_row hx (fa_cons (fe_var (pv 2)) (fa_cons (fe_var (pv 1)) fa_nil)))))
    (fss_one (fs_ret fe_bl))
    fss_nil)))
    (fss_one (fs_ret fe_bl))))⟩
theorem Tx.oki_Relation (T : Tx w K mg) : FnG P w K mg base 4 T.I_Relation T.di_Relation ["self", "size", "rows"] (spI K mg "Relation" ["size", "rows"] 2 mi_Relation) := by
  refine ok_ini 2 T.Fi_Relation sci_Relation T.k_Relation fun cdv A outer s H E hgd hr => ?_
  have tk := takes_def (P := P) (w := w) (K := K) (mg := mg) (base := base) (N := ["self", "size", "rows", "row"]) (qual := "Relation.__init__") (sc := defScope si_Relation) (f := T.I_Relation) (cd := cdv) (A := A) (outer := outer) (s := s) (H := H) (E := E)
  have hx := passAll (passes_call (E := E) tk (fun _ _ _ _ h => h))
  have hu := hu_of2 hr
  exact ⟨_, fun G => (fin_gd (FT.ofW (fw_or (ft_not (ft_val (ke_call (T.ok_is_below (P := P) (base := base)) hgd (hr.mono (by omega)) T.g_is_below T.F_is_below.kp T.b_is_below hx (fa_cons (fe_var (pv 1)) (fa_cons (fe_op (kAdd K) (fun _ => r2_addA) (fe_glob (by rfl) T.g_MOST_PLACES T.r_MOST_PLACES T.y_MOST_PLACES) fe_int) fa_nil))))) (fw_or (ft_cmp (kEqD K hu) (fun _ => r2_eqD) (fe_var (pv 1)) fe_int) (fw_or1 (ft_not (ft_val (ke_call (T.ok_are_rows (P := P) (base := base)) hgd (hr.mono (by omega)) T.g_are_rows T.F_are_rows.kp T.b_are_rows hx (fa_cons (fe_var (pv 2)) (fa_cons (fe_var (pv 1)) fa_nil))))))))) (fss_one (fs_raise1 T.x_InvalidRelation (T.in_InvalidRelation (P := P) (w := w) (base := base)) (hr.mono (by omega)) T.bi_InvalidRelation rfl tk (fa_cons (fe_tup (fa_cons (fe_var (pv 1)) (fa_cons (fe_var (pv 2)) fa_nil))) fa_nil))) (fin_fl (fl_cons (pv 0) (fe_var (pv 1)) (fl_cons (pv 0) (fe_callTy (kTuple K) (fun _ => ra_tuple) T.n_tuple (fa_cons (FN.fe (fn_sortD (B := 1000000) [("row", 3)] rfl sci_Relation.nd (Nat.lt_of_le_of_lt (Nat.le_add_right _ _) hu) T.n_sorted (blkOk_by (by kernel_rfl)) (it_seq K (fe_var (pv 2))) (fun _ _ _ _ _ => (gt_name (pg_name (i := 3) sci_Relation.nd rfl (by first | exact .inl rfl | exact .inr rfl)))) (fun _ _ _ _ _ => fts_nil) (fun _ _ _ _ _ => (fe_var (pv 3))) (fun _ _ _ _ _ => fe_bl))) fa_nil)) fl_nil))))⟩
theorem Tx.ok_fulfils (T : Tx w K mg) : FnG P w K mg base 1 T.f_fulfils T.d_fulfils ["row", "clause"] (spM K mg 2 m_fulfils) := by
  refine ok_def T.F_fulfils sc_fulfils fun cdv A outer s H E hgd hr => ?_
  have tk := takes_def (P := P) (w := w) (K := K) (mg := mg) (base := base) (N := ["row", "clause", "place"]) (qual := "fulfils") (sc := defScope s_fulfils) (f := T.f_fulfils) (cd := cdv) (A := A) (outer := outer) (s := s) (H := H) (E := E)
  have hx := passAll (passes_call (E := E) tk (fun _ _ _ _ h => h))
  have hu := hu_of2 hr
  exact ⟨_, fun G => (fss_cons (fs_if (ft_cmp (kEqD K hu) (fun _ => r2_eqD) (fe_ix (kIx K) (fun _ => r2_ix) (fe_var (pv 1)) fe_int) fe_str)
    (fss_cons (fs_if (FT.ofW (fw_and (ft_cmp (kEqD K hu) (fun _ => r2_eqD) (fe_callB (kLen K) (fun _ => ra_len) T.n_len (fa_cons (fe_var (pv 1)) fa_nil)) fe_int) (fw_and1 (ft_cmp (kEqD K hu) (fun _ => r2_eqD) (fe_ix (kIx K) (fun _ => r2_ix) (fe_var (pv 0)) (fe_ix (kIx K) (fun _ => r2_ix) (fe_var (pv 1)) fe_int)) fe_int))))
    (fss_one (fs_ret fe_bl))
    fss_nil)
    (fss_one (fs_ret (fe_callB (kAny K) (fun _ => ra_any) T.n_any (fa_cons (FN.fe (fn_lc [("place", 2)] rfl sc_fulfils.nd (blkOk_by (by kernel_rfl)) (it_seq K (fe_ix (kIx K) (fun _ => r2_ix) (fe_var (pv 1)) fe_int)) (fun _ _ _ _ _ => (gt_name (pg_name (i := 2) sc_fulfils.nd rfl (by first | exact .inl rfl | exact .inr rfl)))) (fun _ _ _ _ _ => fts_nil) (fun _ _ _ _ _ => (fe_cmp (kEqD K hu) (fun _ => r2_eqD) (fe_ix (kIx K) (fun _ => r2_ix) (fe_var (pv 0)) (fe_var (pv 2))) fe_int)))) fa_nil)))))
    fss_nil)
    (fss_cons (fs_if (ft_cmp (kEqD K hu) (fun _ => r2_eqD) (fe_ix (kIx K) (fun _ => r2_ix) (fe_var (pv 1)) fe_int) fe_str)
    (fss_one (fs_ret (fe_or (fe_cmp (kNeD K hu) (fun _ => r2_neD) (fe_ix (kIx K) (fun _ => r2_ix) (fe_var (pv 0)) (fe_ix (kIx K) (fun _ => r2_ix) (fe_var (pv 1)) fe_int)) (fe_ix (kIx K) (fun _ => r2_ix) (fe_var (pv 1)) fe_int)) (fe_one (fe_cmp (kNeD K hu) (fun _ => r2_neD) (fe_ix (kIx K) (fun _ => r2_ix) (fe_var (pv 0)) (fe_ix (kIx K) (fun _ => r2_ix) (fe_var (pv 1)) fe_int)) (fe_ix (kIx K) (fun _ => r2_ix) (fe_var (pv 1)) fe_int))))))
    fss_nil)
    (fss_one (fs_ret (fe_cmp (kEqD K hu) (fun _ => r2_eqD) (fe_op op_mod (fun _ => r2_mod) (fe_callB (kSum K) (fun _ => ra_sumA) T.n_sum (fa_cons (FN.fe (fn_lc [("place", 2)] rfl sc_fulfils.nd (blkOk_by (by kernel_rfl)) (it_seq K (fe_ix (kIx K) (fun _ => r2_ix) (fe_var (pv 1)) fe_int)) (fun _ _ _ _ _ => (gt_name (pg_name (i := 2) sc_fulfils.nd rfl (by first | exact .inl rfl | exact .inr rfl)))) (fun _ _ _ _ _ => fts_nil) (fun _ _ _ _ _ => (fe_ix (kIx K) (fun _ => r2_ix) (fe_var (pv 0)) (fe_var (pv 2)))))) fa_nil)) fe_int) (fe_ix (kIx K) (fun _ => r2_ix) (fe_var (pv 1)) fe_int))))))⟩
theorem Tx.ok_all_rows (T : Tx w K mg) : FnG P w K mg base 1 T.f_all_rows T.d_all_rows ["size"] (spM K mg 1 m_all_rows) := by
  refine ok_def T.F_all_rows sc_all_rows fun cdv A outer s H E hgd hr => ?_
  have tk := takes_def (P := P) (w := w) (K := K) (mg := mg) (base := base) (N := ["size", "rows", "_", "row", "value"]) (qual := "all_rows") (sc := defScope s_all_rows) (f := T.f_all_rows) (cd := cdv) (A := A) (outer := outer) (s := s) (H := H) (E := E)
  have hx := passAll (passes_call (E := E) tk (fun _ _ _ _ h => h))
  have hu := hu_of2 hr
  exact ⟨_, fun G => (fss_cons (fs_setV (i := 1) sc_all_rows.nd rfl (by first | exact .inl rfl | exact .inr rfl) (FN.fe (fn_lst (fa_cons (fe_tup fa_nil) fa_nil))))
    (fss_cons (fs_forV own_def rfl (fit_range1 T.n_range (fa_cons (fe_var (pv 0)) fa_nil)) (fg_name (pg_name (i := 2) sc_all_rows.nd rfl (by first | exact .inl rfl | exact .inr rfl)))
    (fss_one (FLcS.val (fs_lc2 1 [("row", 3), ("value", 4)] [4] rfl sc_all_rows.nd rfl (by rfl) (sw_true rfl (by rfl) rfl (by kernel_rfl)) (blkOk_by (by kernel_rfl)) (by decide) (it_seq K (fe_var (pv 1))) noOwn_nm (fun _ _ _ _ _ => (gt_name (pg_name (i := 3) sc_all_rows.nd rfl (by first | exact .inl rfl | exact .inr rfl)))) (fun _ _ _ _ _ => fts_nil) (fun _ _ _ _ _ => (it_seq K (fe_tup (fa_cons fe_int (fa_cons fe_int fa_nil))))) (fun _ _ _ _ _ => (gt_name (pg_name (i := 4) sc_all_rows.nd rfl (by first | exact .inl rfl | exact .inr rfl)))) (fun _ _ _ _ _ => fts_nil) (fun _ _ _ _ _ => (fe_op (kAdd K) (fun _ => r2_addA) (fe_var (pv 3)) (fe_tup (fa_cons (fe_var (pv 4)) fa_nil))))))))
    (fss_one (fs_ret (fe_var (pv 1))))))⟩
theorem Tx.ok_all_places (T : Tx w K mg) : FnG P w K mg base 2 T.f_all_places T.d_all_places ["size"] (spM K mg 1 m_all_places) := by
  refine ok_def T.F_all_places sc_all_places fun cdv A outer s H E hgd hr => ?_
  have tk := takes_def (P := P) (w := w) (K := K) (mg := mg) (base := base) (N := ["size", "row", "place"]) (qual := "all_places") (sc := defScope s_all_places) (f := T.f_all_places) (cd := cdv) (A := A) (outer := outer) (s := s) (H := H) (E := E)
  have hx := passAll (passes_call (E := E) tk (fun _ _ _ _ h => h))
  have hu := hu_of2 hr
  exact ⟨_, fun G => (fss_one (fs_ret (FN.fe (fn_lc [("row", 1)] rfl sc_all_places.nd (blkOk_by (by kernel_rfl)) (it_seq K (ke_call (T.ok_all_rows (P := P) (base := base)) hgd (hr.mono (by omega)) T.g_all_rows T.F_all_rows.kp T.b_all_rows hx (fa_cons (fe_var (pv 0)) fa_nil))) (fun _ _ _ _ _ => (gt_name (pg_name (i := 1) sc_all_places.nd rfl (by first | exact .inl rfl | exact .inr rfl)))) (fun _ _ _ _ _ => fts_nil) (fun _ _ _ _ _ => (fe_callTy (kTuple K) (fun _ => ra_tuple) T.n_tuple (fa_cons (FN.fe (fn_lc [("place", 2)] rfl sc_all_places.nd (blkOk_by (by kernel_rfl)) (fit_range1 T.n_range (fa_cons (fe_var (pv 0)) fa_nil)) (fun _ _ _ _ _ => (gt_name (pg_name (i := 2) sc_all_places.nd rfl (by first | exact .inl rfl | exact .inr rfl)))) (fun _ _ _ _ _ => (fts_one (ft_cmp (kEqD K hu) (fun _ => r2_eqD) (fe_ix (kIx K) (fun _ => r2_ix) (fe_var (pv 1)) (fe_var (pv 2))) fe_int))) (fun _ _ _ _ _ => (fe_var (pv 2))))) fa_nil)))))))⟩
theorem Tx.ok_thinned (T : Tx w K mg) : FnG P w K mg base 2 T.f_thinned T.d_thinned ["relation", "clauses"] (spM K mg 2 m_thinned) := by
  refine FnG.gc <| ok_def T.F_thinned sc_thinned fun cdv A outer s H E hgd hr => ?_
  have tk := takes_def (P := P) (w := w) (K := K) (mg := mg) (base := base) (N := ["relation", "clauses", "fit", "taken", "row", "barring", "clause"]) (qual := "thinned") (sc := defScope s_thinned) (f := T.f_thinned) (cd := cdv) (A := A) (outer := outer) (s := s) (H := H) (E := E)
  have hx := passAll (passes_call (E := E) tk (fun _ _ _ _ h => h))
  have hu := hu_of2 hr
  exact ⟨_, fun G => (fss_cons (FLcS.val (fs_lc 2 [("clause", 6)] rfl sc_thinned.nd rfl (by rfl) (sw_true rfl (by rfl) rfl (by kernel_rfl)) (blkOk_by (by kernel_rfl)) (it_seq K (fe_var (pv 1))) (fun _ _ _ _ _ => (gt_name (pg_name (i := 6) sc_thinned.nd rfl (by first | exact .inl rfl | exact .inr rfl)))) (fun _ _ _ _ _ => (fts_one (ft_val (fe_callB (kAll K) (fun _ => ra_all) T.n_all (fa_cons (FN.fe (fn_lc [("row", 4)] rfl sc_thinned.nd (blkOk_by (by kernel_rfl)) (it_seq K (fe_fldI T.k_Relation.C (T.k_Relation.n _ (by simp)) (fe_var (pv 0)))) (fun _ _ _ _ _ => (gt_name (pg_name (i := 4) sc_thinned.nd rfl (by first | exact .inl rfl | exact .inr rfl)))) (fun _ _ _ _ _ => fts_nil) (fun _ _ _ _ _ => (ke_call (T.ok_fulfils (P := P) (base := base)) hgd (hr.mono (by omega)) T.g_fulfils T.F_fulfils.kp T.b_fulfils (passAll passL) (fa_cons (fe_var (pv 4)) (fa_cons (fe_var (pv 6)) fa_nil)))))) fa_nil))))) (fun _ _ _ _ _ => (fe_var (pv 6)))))
    (fss_cons (fs_setS (i := 3) sc_thinned.nd rfl (by first | exact .inl rfl | exact .inr rfl) (fn_lst fa_nil))
    (fss_cons (fs_forV own_def rfl (it_seq K (ke_call (T.ok_all_rows (P := P) (base := base)) hgd (hr.mono (by omega)) T.g_all_rows T.F_all_rows.kp T.b_all_rows hx (fa_cons (fe_fldI T.k_Relation.C (T.k_Relation.n _ (by simp)) (fe_var (pv 0))) fa_nil))) (fg_name (pg_name (i := 4) sc_thinned.nd rfl (by first | exact .inl rfl | exact .inr rfl)))
    (fss_one (fs_if (ft_val (fe_callB (kAll K) (fun _ => ra_all) T.n_all (fa_cons (FN.fe (fn_lcX K [("clause", 6)] rfl sc_thinned.nd (blkOk_by (by kernel_rfl)) (fe_var (pv 3)) (fun _ _ _ _ _ => (gt_name (pg_name (i := 6) sc_thinned.nd rfl (by first | exact .inl rfl | exact .inr rfl)))) (fun _ _ _ _ _ => fts_nil) (fun _ _ _ _ _ => (ke_call (T.ok_fulfils (P := P) (base := base)) hgd (hr.mono (by omega)) T.g_fulfils T.F_fulfils.kp T.b_fulfils (passAll passL) (fa_cons (fe_var (pv 4)) (fa_cons (fe_var (pv 6)) fa_nil)))))) fa_nil)))
    (fss_cons (FLcS.val (fs_lc 5 [("clause", 6)] rfl sc_thinned.nd rfl (by rfl) (sw_true rfl (by rfl) rfl (by kernel_rfl)) (blkOk_by (by kernel_rfl)) (it_seq K (fe_var (pv 2))) (fun _ _ _ _ _ => (gt_name (pg_name (i := 6) sc_thinned.nd rfl (by first | exact .inl rfl | exact .inr rfl)))) (fun _ _ _ _ _ => (fts_one (ft_not (ft_val (ke_call (T.ok_fulfils (P := P) (base := base)) hgd (hr.mono (by omega)) T.g_fulfils T.F_fulfils.kp T.b_fulfils (passAll passL) (fa_cons (fe_var (pv 4)) (fa_cons (fe_var (pv 6)) fa_nil))))))) (fun _ _ _ _ _ => (fe_var (pv 6)))))
    (fss_one (fs_expr (fe_extE K (fe_var (pv 3)) (fe_slice (kSl K) (fun _ => rsl) (fe_var (pv 5)) fo_none (fo_some fe_int))))))
    fss_nil)))
    (fss_one (fs_ret (fe_asT (fe_callTy cr_tupleP (fun _ => ra_tupleP) T.n_tuple (fa_cons (fe_var (pv 3)) fa_nil))))))))⟩
theorem Tx.ok_every_if (T : Tx w K mg) : FnG P w K mg base 3 T.f_every_if T.d_every_if ["size"] (spM K mg 1 m_every_if) := by
  refine ok_def T.F_every_if sc_every_if fun cdv A outer s H E hgd hr => ?_
  have tk := takes_def (P := P) (w := w) (K := K) (mg := mg) (base := base) (N := ["size", "clauses", "places", "place"]) (qual := "every_if") (sc := defScope s_every_if) (f := T.f_every_if) (cd := cdv) (A := A) (outer := outer) (s := s) (H := H) (E := E)
  have hx := passAll (passes_call (E := E) tk (fun _ _ _ _ h => h))
  have hu := hu_of2 hr
  exact ⟨_, fun G => (fss_cons (fs_setO (i := 1) sc_every_if.nd rfl (by first | exact .inl rfl | exact .inr rfl) (fn_lst fa_nil))
    (fss_cons (fs_forV own_def rfl (it_seq K (FN.fe (fn_sortLen hu T.n_sorted T.n_len (fa_cons (ke_call (T.ok_all_places (P := P) (base := base)) hgd (hr.mono (by omega)) T.g_all_places T.F_all_places.kp T.b_all_places hx (fa_cons (fe_var (pv 0)) fa_nil)) fa_nil)))) (fg_name (pg_name (i := 2) sc_every_if.nd rfl (by first | exact .inl rfl | exact .inr rfl)))
    (fss_cons (fs_if (ft_tru K (fe_var (pv 2)))
    (fss_one (fs_app (pv 1) (fe_tup (fa_cons fe_str (fa_cons (fe_var (pv 2)) fa_nil)))))
    fss_nil)
    (fss_one (fs_extend (pv 1) (FN.fe (fn_lc [("place", 3)] rfl sc_every_if.nd (blkOk_by (by kernel_rfl)) (fit_range1 T.n_range (fa_cons (fe_var (pv 0)) fa_nil)) (fun _ _ _ _ _ => (gt_name (pg_name (i := 3) sc_every_if.nd rfl (by first | exact .inl rfl | exact .inr rfl)))) (fun _ _ _ _ _ => (fts_one (ft_cmp (kNotInD K hu) (fun _ => r2_notInA) (fe_var (pv 3)) (fe_var (pv 2))))) (fun _ _ _ _ _ => (fe_tup (fa_cons fe_str (fa_cons (fe_var (pv 2)) (fa_cons (fe_var (pv 3)) fa_nil)))))))))))
    (fss_one (fs_retOwn (pv 1)))))⟩
theorem Tx.ok_every_pair (T : Tx w K mg) : FnG P w K mg base 2 T.f_every_pair T.d_every_pair ["size"] (spM K mg 1 m_every_pair) := by
  refine ok_def T.F_every_pair sc_every_pair fun cdv A outer s H E hgd hr => ?_
  have tk := takes_def (P := P) (w := w) (K := K) (mg := mg) (base := base) (N := ["size", "values", "j", "i", "one", "two"]) (qual := "every_pair") (sc := defScope s_every_pair) (f := T.f_every_pair) (cd := cdv) (A := A) (outer := outer) (s := s) (H := H) (E := E)
  have hx := passAll (passes_call (E := E) tk (fun _ _ _ _ h => h))
  have hu := hu_of2 hr
  exact ⟨_, fun G => (fss_cons (fs_setV (i := 1) sc_every_pair.nd rfl (by first | exact .inl rfl | exact .inr rfl) (ke_call (T.ok_all_rows (P := P) (base := base)) hgd (hr.mono (by omega)) T.g_all_rows T.F_all_rows.kp T.b_all_rows hx (fa_cons fe_int fa_nil)))
    (fss_one (fs_ret (FN.fe (fn_lc3 [("j", 2), ("i", 3), ("one", 4), ("two", 5)] [3, 4, 5] [4, 5] rfl sc_every_pair.nd (blkOk_by (by kernel_rfl)) (by decide) (by decide) (fit_range1 T.n_range (fa_cons (fe_var (pv 0)) fa_nil)) noOwn_nm noOwn_nm (fun _ _ _ _ _ => (gt_name (pg_name (i := 2) sc_every_pair.nd rfl (by first | exact .inl rfl | exact .inr rfl)))) (fun _ _ _ _ _ => fts_nil) (fun _ _ _ _ _ => (fit_range1 T.n_range (fa_cons (fe_var (pv 2)) fa_nil))) (fun _ _ _ _ _ => (gt_name (pg_name (i := 3) sc_every_pair.nd rfl (by first | exact .inl rfl | exact .inr rfl)))) (fun _ _ _ _ _ => fts_nil) (fun _ _ _ _ _ => (it_seq K (fe_var (pv 1)))) (fun _ _ _ _ _ => (gk_tup K (gts_cons (gt_name (pg_name (i := 4) sc_every_pair.nd rfl (by first | exact .inl rfl | exact .inr rfl))) (gts_cons (gt_name (pg_name (i := 5) sc_every_pair.nd rfl (by first | exact .inl rfl | exact .inr rfl))) gts_nil (pgs_cons (pg_name (i := 5) sc_every_pair.nd rfl (by first | exact .inl rfl | exact .inr rfl)) pgs_nil)) (pgs_cons (pg_name (i := 4) sc_every_pair.nd rfl (by first | exact .inl rfl | exact .inr rfl)) (pgs_cons (pg_name (i := 5) sc_every_pair.nd rfl (by first | exact .inl rfl | exact .inr rfl)) pgs_nil))) (pg_tup rfl (pgs_cons (pg_name (i := 4) sc_every_pair.nd rfl (by first | exact .inl rfl | exact .inr rfl)) (pgs_cons (pg_name (i := 5) sc_every_pair.nd rfl (by first | exact .inl rfl | exact .inr rfl)) pgs_nil))))) (fun _ _ _ _ _ => fts_nil) (fun _ _ _ _ _ => (fe_tup (fa_cons fe_str (fa_cons (fe_var (pv 3)) (fa_cons (fe_var (pv 2)) (fa_cons (fe_var (pv 4)) (fa_cons (fe_var (pv 5)) fa_nil))))))))))))⟩
theorem Tx.ok_pair_clauses (T : Tx w K mg) : FnG P w K mg base 4 T.f_pair_clauses T.d_pair_clauses ["relation"] (spM K mg 1 m_pair_clauses) := by
  refine ok_def T.F_pair_clauses sc_pair_clauses fun cdv A outer s H E hgd hr => ?_
  have tk := takes_def (P := P) (w := w) (K := K) (mg := mg) (base := base) (N := ["relation"]) (qual := "pair_clauses") (sc := defScope s_pair_clauses) (f := T.f_pair_clauses) (cd := cdv) (A := A) (outer := outer) (s := s) (H := H) (E := E)
  have hx := passAll (passes_call (E := E) tk (fun _ _ _ _ h => h))
  have hu := hu_of2 hr
  exact ⟨_, fun G => (fss_cons (fs_if (ft_cmp (kEqD K hu) (fun _ => r2_eqD) (fe_fldI T.k_Relation.C (T.k_Relation.n _ (by simp)) (fe_var (pv 0))) fe_int)
    (fss_one (fs_ret (ke_call (T.ok_thinned (P := P) (base := base)) hgd (hr.mono (by omega)) T.g_thinned T.F_thinned.kp T.b_thinned hx (fa_cons (fe_var (pv 0)) (fa_cons (ke_call (T.ok_every_if (P := P) (base := base)) hgd (hr.mono (by omega)) T.g_every_if T.F_every_if.kp T.b_every_if hx (fa_cons fe_int fa_nil)) fa_nil)))))
    fss_nil)
    (fss_one (fs_ret (ke_call (T.ok_thinned (P := P) (base := base)) hgd (hr.mono (by omega)) T.g_thinned T.F_thinned.kp T.b_thinned hx (fa_cons (fe_var (pv 0)) (fa_cons (ke_call (T.ok_every_pair (P := P) (base := base)) hgd (hr.mono (by omega)) T.g_every_pair T.F_every_pair.kp T.b_every_pair hx (fa_cons (fe_fldI T.k_Relation.C (T.k_Relation.n _ (by simp)) (fe_var (pv 0))) fa_nil)) fa_nil))))))⟩
theorem Tx.ok__law_draws (T : Tx w K mg) : FnG P w K mg base 1 T.f__law_draws T.d__law_draws ["script", "many"] (spM K mg 2 m__law_draws) := by
  refine ok_def T.F__law_draws sc__law_draws fun cdv A outer s H E hgd hr => ?_
  have tk := takes_def (P := P) (w := w) (K := K) (mg := mg) (base := base) (N := ["script", "many", "rests", "draws", "k", "cell", "mixed", "at"]) (qual := "_law_draws") (sc := defScope s__law_draws) (f := T.f__law_draws) (cd := cdv) (A := A) (outer := outer) (s := s) (H := H) (E := E)
  have hx := passAll (passes_call (E := E) tk (fun _ _ _ _ h => h))
  have hu := hu_of2 hr
  exact ⟨_, fun G => (fss_cons (FLcS.own (fs_lc 2 [("cell", 5)] rfl sc__law_draws.nd rfl (by rfl) (sw_true rfl (by rfl) rfl (by kernel_rfl)) (blkOk_by (by kernel_rfl)) (it_seq K (fe_var (pv 0))) (fun _ _ _ _ _ => (gt_name (pg_name (i := 5) sc__law_draws.nd rfl (by first | exact .inl rfl | exact .inr rfl)))) (fun _ _ _ _ _ => fts_nil) (fun _ _ _ _ _ => (fe_callB call_abs (fun _ => ra_abs) T.n_abs (fa_cons (fe_callTy call_int1 (fun _ => ra_int) T.n_int (fa_cons (fe_var (pv 5)) fa_nil)) fa_nil)))))
    (fss_cons (fs_setO (i := 3) sc__law_draws.nd rfl (by first | exact .inl rfl | exact .inr rfl) (fn_lst fa_nil))
    (fss_cons (fs_forV own_def rfl (fit_range1 T.n_range (fa_cons (fe_var (pv 1)) fa_nil)) (fg_name (pg_name (i := 4) sc__law_draws.nd rfl (by first | exact .inl rfl | exact .inr rfl)))
    (fss_cons (fs_setV (i := 5) sc__law_draws.nd rfl (by first | exact .inl rfl | exact .inr rfl) (fe_var (pv 4)))
    (fss_cons (fs_if (ft_cmp op_gt (fun _ => r2_gt) (fe_callB (kLen K) (fun _ => ra_len) T.n_len (fa_cons (fe_var (pv 0)) fa_nil)) fe_int)
    (fss_cons (fs_setV (i := 7) sc__law_draws.nd rfl (by first | exact .inl rfl | exact .inr rfl) (fe_op op_mod (fun _ => r2_mod) (fe_var (pv 4)) (fe_callB (kLen K) (fun _ => ra_len) T.n_len (fa_cons (fe_var (pv 0)) fa_nil))))
    (fss_cons (fs_setV (i := 5) sc__law_draws.nd rfl (by first | exact .inl rfl | exact .inr rfl) (fe_callTy call_int1 (fun _ => ra_int) T.n_int (fa_cons (fe_ix (kIx K) (fun _ => r2_ix) (fe_var (pv 0)) (fe_var (pv 7))) fa_nil)))
    (fss_one (fs_if (FT.ofW (fw_and (ft_cmp (kGe K hu) (fun _ => r2_geA) (fe_var (pv 5)) (fe_op op_pow (fun _ => r2_pow) fe_int fe_int)) (fw_and1 (ft_cmp op_gt (fun _ => r2_gt) (ke_ixOwn K (fe_var (pv 7)) (pv 2)) fe_int))))
    (fss_cons (fs_app (pv 3) (fe_op op_mod (fun _ => r2_mod) (fe_callTy call_int1 (fun _ => ra_int) T.n_int (fa_cons (ke_ixOwn K (fe_var (pv 7)) (pv 2)) fa_nil)) fe_int))
    (fss_cons (fs_put (pv 2) (fe_var (pv 7)) (fe_op op_fdiv (fun _ => r2_fdiv) (fe_callTy call_int1 (fun _ => ra_int) T.n_int (fa_cons (ke_ixOwn K (fe_var (pv 7)) (pv 2)) fa_nil)) fe_int))
    (fss_one fs_continue)))
    fss_nil))))
    fss_nil)
    (fss_cons (fs_setV (i := 6) sc__law_draws.nd rfl (by first | exact .inl rfl | exact .inr rfl) (fe_op op_mod (fun _ => r2_mod) (fe_callTy call_int1 (fun _ => ra_int) T.n_int (fa_cons (fe_op (kAdd K) (fun _ => r2_addA) (fe_op (kAdd K) (fun _ => r2_addA) (fe_op (kMul K) (fun _ => r2_mulA) (fe_var (pv 5)) fe_int) (fe_op (kMul K) (fun _ => r2_mulA) (fe_var (pv 4)) fe_int)) fe_int) fa_nil)) fe_int))
    (fss_cons (fs_setV (i := 6) sc__law_draws.nd rfl (by first | exact .inl rfl | exact .inr rfl) (fe_op op_mod (fun _ => r2_mod) (fe_callTy call_int1 (fun _ => ra_int) T.n_int (fa_cons (fe_op (kAdd K) (fun _ => r2_addA) (fe_op op_fdiv (fun _ => r2_fdiv) (fe_op (kMul K) (fun _ => r2_mulA) (fe_var (pv 6)) (fe_var (pv 6))) fe_int) (fe_var (pv 6))) fa_nil)) fe_int))
    (fss_one (fs_app (pv 3) (fe_op op_mod (fun _ => r2_mod) (fe_callTy call_int1 (fun _ => ra_int) T.n_int (fa_cons (fe_op (kAdd K) (fun _ => r2_addA) (fe_op op_fdiv (fun _ => r2_fdiv) (fe_op (kMul K) (fun _ => r2_mulA) (fe_var (pv 6)) (fe_var (pv 6))) fe_int) (fe_op (kMul K) (fun _ => r2_mulA) (fe_var (pv 4)) fe_int)) fa_nil)) fe_int))))))))
    (fss_frz 2 (fss_one (fs_retOwn (pv 3)))))))⟩
theorem Tx.ok__law_take (T : Tx w K mg) : FnG P w K mg base 1 T.f__law_take T.d__law_take ["hand", "many"] (spM K mg 2 m__law_take) := by
  refine ok_def T.F__law_take sc__law_take fun cdv A outer s H E hgd hr => ?_
  have tk := takes_def (P := P) (w := w) (K := K) (mg := mg) (base := base) (N := ["hand", "many", "at", "draws"]) (qual := "_law_take") (sc := defScope s__law_take) (f := T.f__law_take) (cd := cdv) (A := A) (outer := outer) (s := s) (H := H) (E := E)
  have hx := passAll (passes_call (E := E) tk (fun _ _ _ _ h => h))
  have hu := hu_of2 hr
  exact ⟨_, fun G => (fss_cons (fs_setV (i := 2) sc__law_take.nd rfl (by first | exact .inl rfl | exact .inr rfl) (fe_ix (kIx K) (fun _ => r2_ix) (fe_var (pv 0)) fe_int))
    (fss_cons (fs_put (pv 0) fe_int (fe_op (kAdd K) (fun _ => r2_addA) (fe_var (pv 2)) fe_int))
    (fss_cons (fs_setV (i := 3) sc__law_take.nd rfl (by first | exact .inl rfl | exact .inr rfl) (fe_ix (kIx K) (fun _ => r2_ix) (fe_var (pv 0)) fe_int))
    (fss_cons (fs_if (ft_cmp (kGe K hu) (fun _ => r2_geA) (fe_var (pv 2)) (fe_callB (kLen K) (fun _ => ra_len) T.n_len (fa_cons (fe_var (pv 3)) fa_nil)))
    (fss_one (fs_ret fe_int))
    fss_nil)
    (fss_one (fs_ret (fe_op op_mod (fun _ => r2_mod) (fe_op op_fdiv (fun _ => r2_fdiv) (fe_callTy call_int1 (fun _ => ra_int) T.n_int (fa_cons (fe_ix (kIx K) (fun _ => r2_ix) (fe_var (pv 3)) (fe_var (pv 2))) fa_nil)) fe_int) (fe_var (pv 1)))))))))⟩
theorem Tx.ok__law_all_rows (T : Tx w K mg) : FnG P w K mg base 1 T.f__law_all_rows T.d__law_all_rows ["many"] (spM K mg 1 m__law_all_rows) := by
  refine ok_def T.F__law_all_rows sc__law_all_rows fun cdv A outer s H E hgd hr => ?_
  have tk := takes_def (P := P) (w := w) (K := K) (mg := mg) (base := base) (N := ["many", "rows", "k", "longer", "row"]) (qual := "_law_all_rows") (sc := defScope s__law_all_rows) (f := T.f__law_all_rows) (cd := cdv) (A := A) (outer := outer) (s := s) (H := H) (E := E)
  have hx := passAll (passes_call (E := E) tk (fun _ _ _ _ h => h))
  have hu := hu_of2 hr
  exact ⟨_, fun G => (fss_cons (fs_setV (i := 1) sc__law_all_rows.nd rfl (by first | exact .inl rfl | exact .inr rfl) (FN.fe (fn_lst (fa_cons (fe_tup fa_nil) fa_nil))))
    (fss_cons (fs_forV own_def rfl (fit_range1 T.n_range (fa_cons (fe_var (pv 0)) fa_nil)) (fg_name (pg_name (i := 2) sc__law_all_rows.nd rfl (by first | exact .inl rfl | exact .inr rfl)))
    (fss_cons (fs_setV (i := 3) sc__law_all_rows.nd rfl (by first | exact .inl rfl | exact .inr rfl) (FN.fe (fn_lst fa_nil)))
    (fss_cons (fs_forV own_def rfl (it_seq K (fe_var (pv 1))) (fg_name (pg_name (i := 4) sc__law_all_rows.nd rfl (by first | exact .inl rfl | exact .inr rfl)))
    (fss_one (fs_setV (i := 3) sc__law_all_rows.nd rfl (by first | exact .inl rfl | exact .inr rfl) (fe_op (kAdd K) (fun _ => r2_addA) (fe_var (pv 3)) (FN.fe (fn_lst (fa_cons (fe_op (kAdd K) (fun _ => r2_addA) (fe_var (pv 4)) (fe_tup (fa_cons fe_int fa_nil))) (fa_cons (fe_op (kAdd K) (fun _ => r2_addA) (fe_var (pv 4)) (fe_tup (fa_cons fe_int fa_nil))) fa_nil))))))))
    (fss_one (fs_setV (i := 1) sc__law_all_rows.nd rfl (by first | exact .inl rfl | exact .inr rfl) (fe_var (pv 3)))))))
    (fss_one (fs_ret (fe_var (pv 1))))))⟩
theorem Tx.ok__law_table (T : Tx w K mg) : FnG P w K mg base 1 T.f__law_table T.d__law_table ["word"] (spM K mg 1 m__law_table) := by
  refine ok_def T.F__law_table sc__law_table fun cdv A outer s H E hgd hr => ?_
  have tk := takes_def (P := P) (w := w) (K := K) (mg := mg) (base := base) (N := ["word", "tables"]) (qual := "_law_table") (sc := defScope s__law_table) (f := T.f__law_table) (cd := cdv) (A := A) (outer := outer) (s := s) (H := H) (E := E)
  have hx := passAll (passes_call (E := E) tk (fun _ _ _ _ h => h))
  have hu := hu_of2 hr
  exact ⟨_, fun G => (fss_cons (fs_setV (i := 1) sc__law_table.nd rfl (by first | exact .inl rfl | exact .inr rfl) (FN.fe (fn_lst (fa_cons (fe_tup (fa_cons fe_int (fa_cons fe_int fa_nil))) (fa_cons (fe_tup (fa_cons fe_int (fa_cons fe_int fa_nil))) (fa_cons (fe_tup (fa_cons fe_int (fa_cons fe_int (fa_cons fe_int (fa_cons fe_int fa_nil))))) (fa_cons (fe_tup (fa_cons fe_int (fa_cons fe_int (fa_cons fe_int (fa_cons fe_int fa_nil))))) (fa_cons (fe_tup (fa_cons fe_int (fa_cons fe_int (fa_cons fe_int (fa_cons fe_int (fa_cons fe_int (fa_cons fe_int (fa_cons fe_int (fa_cons fe_int fa_nil))))))))) (fa_cons (fe_tup (fa_cons fe_int (fa_cons fe_int (fa_cons fe_int (fa_cons fe_int (fa_cons fe_int (fa_cons fe_int (fa_cons fe_int (fa_cons fe_int fa_nil))))))))) fa_nil)))))))))
    (fss_one (fs_ret (fe_ix (kIx K) (fun _ => r2_ix) (fe_var (pv 1)) (fe_index K (FN.fe (fn_lst (fa_cons fe_str (fa_cons fe_str (fa_cons fe_str (fa_cons fe_str (fa_cons fe_str (fa_cons fe_str fa_nil)))))))) (fa_cons (fe_var (pv 0)) fa_nil))))))⟩
theorem Tx.ok__law_made (T : Tx w K mg) : FnG P w K mg base 1 T.f__law_made T.d__law_made ["table", "rows"] (spM K mg 2 m__law_made) := by
  refine ok_def T.F__law_made sc__law_made fun cdv A outer s H E hgd hr => ?_
  have tk := takes_def (P := P) (w := w) (K := K) (mg := mg) (base := base) (N := ["table", "rows", "x", "y", "z"]) (qual := "_law_made") (sc := defScope s__law_made) (f := T.f__law_made) (cd := cdv) (A := A) (outer := outer) (s := s) (H := H) (E := E)
  have hx := passAll (passes_call (E := E) tk (fun _ _ _ _ h => h))
  have hu := hu_of2 hr
  exact ⟨_, fun G => (fss_cons (fs_if (ft_cmp (kEqD K hu) (fun _ => r2_eqD) (fe_callB (kLen K) (fun _ => ra_len) T.n_len (fa_cons (fe_var (pv 1)) fa_nil)) fe_int)
    (fss_one (fs_ret (fe_callTy (kTuple K) (fun _ => ra_tuple) T.n_tuple (fa_cons (FN.fe (fn_lc [("x", 2)] rfl sc__law_made.nd (blkOk_by (by kernel_rfl)) (it_seq K (fe_ix (kIx K) (fun _ => r2_ix) (fe_var (pv 1)) fe_int)) (fun _ _ _ _ _ => (gt_name (pg_name (i := 2) sc__law_made.nd rfl (by first | exact .inl rfl | exact .inr rfl)))) (fun _ _ _ _ _ => fts_nil) (fun _ _ _ _ _ => (fe_ix (kIx K) (fun _ => r2_ix) (fe_var (pv 0)) (fe_var (pv 2)))))) fa_nil))))
    fss_nil)
    (fss_cons (fs_if (ft_cmp (kEqD K hu) (fun _ => r2_eqD) (fe_callB (kLen K) (fun _ => ra_len) T.n_len (fa_cons (fe_var (pv 1)) fa_nil)) fe_int)
    (fss_one (fs_ret (fe_callTy (kTuple K) (fun _ => ra_tuple) T.n_tuple (fa_cons (FN.fe (fn_lc [("x", 2), ("y", 3)] rfl sc__law_made.nd (blkOk_by (by kernel_rfl)) (fit_zipA K T.n_zip (fa_cons (fe_ix (kIx K) (fun _ => r2_ix) (fe_var (pv 1)) fe_int) (fa_cons (fe_ix (kIx K) (fun _ => r2_ix) (fe_var (pv 1)) fe_int) fa_nil))) (fun _ _ _ _ _ => (gk_tup K (gts_cons (gt_name (pg_name (i := 2) sc__law_made.nd rfl (by first | exact .inl rfl | exact .inr rfl))) (gts_cons (gt_name (pg_name (i := 3) sc__law_made.nd rfl (by first | exact .inl rfl | exact .inr rfl))) gts_nil (pgs_cons (pg_name (i := 3) sc__law_made.nd rfl (by first | exact .inl rfl | exact .inr rfl)) pgs_nil)) (pgs_cons (pg_name (i := 2) sc__law_made.nd rfl (by first | exact .inl rfl | exact .inr rfl)) (pgs_cons (pg_name (i := 3) sc__law_made.nd rfl (by first | exact .inl rfl | exact .inr rfl)) pgs_nil))) (pg_tup rfl (pgs_cons (pg_name (i := 2) sc__law_made.nd rfl (by first | exact .inl rfl | exact .inr rfl)) (pgs_cons (pg_name (i := 3) sc__law_made.nd rfl (by first | exact .inl rfl | exact .inr rfl)) pgs_nil))))) (fun _ _ _ _ _ => fts_nil) (fun _ _ _ _ _ => (fe_ix (kIx K) (fun _ => r2_ix) (fe_var (pv 0)) (fe_op (kAdd K) (fun _ => r2_addA) (fe_op (kMul K) (fun _ => r2_mulA) fe_int (fe_var (pv 2))) (fe_var (pv 3))))))) fa_nil))))
    fss_nil)
    (fss_one (fs_ret (fe_callTy (kTuple K) (fun _ => ra_tuple) T.n_tuple (fa_cons (FN.fe (fn_lc [("x", 2), ("y", 3), ("z", 4)] rfl sc__law_made.nd (blkOk_by (by kernel_rfl)) (fit_zip3 K T.n_zip (fa_cons (fe_ix (kIx K) (fun _ => r2_ix) (fe_var (pv 1)) fe_int) (fa_cons (fe_ix (kIx K) (fun _ => r2_ix) (fe_var (pv 1)) fe_int) (fa_cons (fe_ix (kIx K) (fun _ => r2_ix) (fe_var (pv 1)) fe_int) fa_nil)))) (fun _ _ _ _ _ => (gk_tup K (gts_cons (gt_name (pg_name (i := 2) sc__law_made.nd rfl (by first | exact .inl rfl | exact .inr rfl))) (gts_cons (gt_name (pg_name (i := 3) sc__law_made.nd rfl (by first | exact .inl rfl | exact .inr rfl))) (gts_cons (gt_name (pg_name (i := 4) sc__law_made.nd rfl (by first | exact .inl rfl | exact .inr rfl))) gts_nil (pgs_cons (pg_name (i := 4) sc__law_made.nd rfl (by first | exact .inl rfl | exact .inr rfl)) pgs_nil)) (pgs_cons (pg_name (i := 3) sc__law_made.nd rfl (by first | exact .inl rfl | exact .inr rfl)) (pgs_cons (pg_name (i := 4) sc__law_made.nd rfl (by first | exact .inl rfl | exact .inr rfl)) pgs_nil))) (pgs_cons (pg_name (i := 2) sc__law_made.nd rfl (by first | exact .inl rfl | exact .inr rfl)) (pgs_cons (pg_name (i := 3) sc__law_made.nd rfl (by first | exact .inl rfl | exact .inr rfl)) (pgs_cons (pg_name (i := 4) sc__law_made.nd rfl (by first | exact .inl rfl | exact .inr rfl)) pgs_nil)))) (pg_tup rfl (pgs_cons (pg_name (i := 2) sc__law_made.nd rfl (by first | exact .inl rfl | exact .inr rfl)) (pgs_cons (pg_name (i := 3) sc__law_made.nd rfl (by first | exact .inl rfl | exact .inr rfl)) (pgs_cons (pg_name (i := 4) sc__law_made.nd rfl (by first | exact .inl rfl | exact .inr rfl)) pgs_nil)))))) (fun _ _ _ _ _ => fts_nil) (fun _ _ _ _ _ => (fe_ix (kIx K) (fun _ => r2_ix) (fe_var (pv 0)) (fe_op (kAdd K) (fun _ => r2_addA) (fe_op (kAdd K) (fun _ => r2_addA) (fe_op (kMul K) (fun _ => r2_mulA) fe_int (fe_var (pv 2))) (fe_op (kMul K) (fun _ => r2_mulA) fe_int (fe_var (pv 3)))) (fe_var (pv 4))))))) fa_nil))))))⟩
theorem Tx.ok__law_chosen (T : Tx w K mg) : FnG P w K mg base 1 T.f__law_chosen T.d__law_chosen ["rows", "table"] (spM K mg 2 m__law_chosen) := by
  refine ok_def T.F__law_chosen sc__law_chosen fun cdv A outer s H E hgd hr => ?_
  have tk := takes_def (P := P) (w := w) (K := K) (mg := mg) (base := base) (N := ["rows", "table", "chosen", "k", "longer", "some", "row"]) (qual := "_law_chosen") (sc := defScope s__law_chosen) (f := T.f__law_chosen) (cd := cdv) (A := A) (outer := outer) (s := s) (H := H) (E := E)
  have hx := passAll (passes_call (E := E) tk (fun _ _ _ _ h => h))
  have hu := hu_of2 hr
  exact ⟨_, fun G => (fss_cons (fs_setV (i := 2) sc__law_chosen.nd rfl (by first | exact .inl rfl | exact .inr rfl) (FN.fe (fn_lst (fa_cons (fe_tup fa_nil) fa_nil))))
    (fss_cons (fs_forV own_def rfl (fit_range1 T.n_range (fa_cons (fe_op (kAdd K) (fun _ => r2_addA) (fe_index K (FN.fe (fn_lst (fa_cons fe_int (fa_cons fe_int (fa_cons fe_int fa_nil))))) (fa_cons (fe_callB (kLen K) (fun _ => ra_len) T.n_len (fa_cons (fe_var (pv 1)) fa_nil)) fa_nil)) fe_int) fa_nil)) (fg_name (pg_name (i := 3) sc__law_chosen.nd rfl (by first | exact .inl rfl | exact .inr rfl)))
    (fss_cons (fs_setV (i := 4) sc__law_chosen.nd rfl (by first | exact .inl rfl | exact .inr rfl) (FN.fe (fn_lst fa_nil)))
    (fss_cons (fs_forV own_def rfl (it_seq K (fe_var (pv 2))) (fg_name (pg_name (i := 5) sc__law_chosen.nd rfl (by first | exact .inl rfl | exact .inr rfl)))
    (fss_one (fs_setV (i := 4) sc__law_chosen.nd rfl (by first | exact .inl rfl | exact .inr rfl) (fe_op (kAdd K) (fun _ => r2_addA) (fe_var (pv 4)) (FN.fe (fn_lc [("row", 6)] rfl sc__law_chosen.nd (blkOk_by (by kernel_rfl)) (it_seq K (fe_var (pv 0))) (fun _ _ _ _ _ => (gt_name (pg_name (i := 6) sc__law_chosen.nd rfl (by first | exact .inl rfl | exact .inr rfl)))) (fun _ _ _ _ _ => (fts_one (FT.ofW (fw_or (ft_cmp (kEqD K hu) (fun _ => r2_eqD) (fe_callB (kLen K) (fun _ => ra_len) T.n_len (fa_cons (fe_var (pv 5)) fa_nil)) fe_int) (fw_or1 (ft_cmp (kGe K hu) (fun _ => r2_geA) (fe_var (pv 6)) (fe_ix (kIx K) (fun _ => r2_ix) (fe_var (pv 5)) (fe_un un_neg (fun _ => r1_neg) fe_int)))))))) (fun _ _ _ _ _ => (fe_op (kAdd K) (fun _ => r2_addA) (fe_var (pv 5)) (fe_tup (fa_cons (fe_var (pv 6)) fa_nil))))))))))
    (fss_one (fs_setV (i := 2) sc__law_chosen.nd rfl (by first | exact .inl rfl | exact .inr rfl) (fe_var (pv 4)))))))
    (fss_one (fs_ret (fe_var (pv 2))))))⟩
theorem Tx.ok__law_closed (T : Tx w K mg) : FnG P w K mg base 2 T.f__law_closed T.d__law_closed ["rows", "table"] (spM K mg 2 m__law_closed) := by
  refine ok_def T.F__law_closed sc__law_closed fun cdv A outer s H E hgd hr => ?_
  have tk := takes_def (P := P) (w := w) (K := K) (mg := mg) (base := base) (N := ["rows", "table", "found", "known", "every", "turn", "more", "some", "row", "k"]) (qual := "_law_closed") (sc := defScope s__law_closed) (f := T.f__law_closed) (cd := cdv) (A := A) (outer := outer) (s := s) (H := H) (E := E)
  have hx := passAll (passes_call (E := E) tk (fun _ _ _ _ h => h))
  have hu := hu_of2 hr
  exact ⟨_, fun G => (fss_cons (fs_setV (i := 2) sc__law_closed.nd rfl (by first | exact .inl rfl | exact .inr rfl) (FN.fe (fn_callTy (kList K) (fun _ => ra_list) T.n_list (fa_cons (fe_var (pv 0)) fa_nil))))
    (fss_cons (fs_setV (i := 3) sc__law_closed.nd rfl (by first | exact .inl rfl | exact .inr rfl) fe_int)
    (fss_cons (fs_setV (i := 4) sc__law_closed.nd rfl (by first | exact .inl rfl | exact .inr rfl) (fe_callB (kLen K) (fun _ => ra_len) T.n_len (fa_cons (ke_call (T.ok__law_all_rows (P := P) (base := base)) hgd (hr.mono (by omega)) T.g__law_all_rows T.F__law_all_rows.kp T.b__law_all_rows hx (fa_cons (fe_callB (kLen K) (fun _ => ra_len) T.n_len (fa_cons (fe_ix (kIx K) (fun _ => r2_ix) (fe_var (pv 0)) fe_int) fa_nil)) fa_nil)) fa_nil)))
    (fss_cons (fs_forV own_def rfl (fit_range1 T.n_range (fa_cons fe_int fa_nil)) (fg_name (pg_name (i := 5) sc__law_closed.nd rfl (by first | exact .inl rfl | exact .inr rfl)))
    (fss_cons (fs_setO (i := 6) sc__law_closed.nd rfl (by first | exact .inl rfl | exact .inr rfl) (fn_lst fa_nil))
    (fss_cons (fs_forV own_def rfl (it_seq K (ke_call (T.ok__law_chosen (P := P) (base := base)) hgd (hr.mono (by omega)) T.g__law_chosen T.F__law_chosen.kp T.b__law_chosen hx (fa_cons (FN.fe (fn_lc [("k", 9)] rfl sc__law_closed.nd (blkOk_by (by kernel_rfl)) (fit_range1 T.n_range (fa_cons (fe_callB (kLen K) (fun _ => ra_len) T.n_len (fa_cons (fe_var (pv 2)) fa_nil)) fa_nil)) (fun _ _ _ _ _ => (gt_name (pg_name (i := 9) sc__law_closed.nd rfl (by first | exact .inl rfl | exact .inr rfl)))) (fun _ _ _ _ _ => fts_nil) (fun _ _ _ _ _ => (fe_var (pv 9))))) (fa_cons (fe_var (pv 1)) fa_nil)))) (fg_name (pg_name (i := 7) sc__law_closed.nd rfl (by first | exact .inl rfl | exact .inr rfl)))
    (fss_one (fs_if (ft_cmp (kGe K hu) (fun _ => r2_geA) (fe_ix (kIx K) (fun _ => r2_ix) (fe_var (pv 7)) (fe_un un_neg (fun _ => r1_neg) fe_int)) (fe_var (pv 3)))
    (fss_cons (fs_setV (i := 8) sc__law_closed.nd rfl (by first | exact .inl rfl | exact .inr rfl) (ke_call (T.ok__law_made (P := P) (base := base)) hgd (hr.mono (by omega)) T.g__law_made T.F__law_made.kp T.b__law_made hx (fa_cons (fe_var (pv 1)) (fa_cons (FN.fe (fn_lc [("k", 9)] rfl sc__law_closed.nd (blkOk_by (by kernel_rfl)) (it_seq K (fe_var (pv 7))) (fun _ _ _ _ _ => (gt_name (pg_name (i := 9) sc__law_closed.nd rfl (by first | exact .inl rfl | exact .inr rfl)))) (fun _ _ _ _ _ => fts_nil) (fun _ _ _ _ _ => (fe_ix (kIx K) (fun _ => r2_ix) (fe_var (pv 2)) (fe_var (pv 9)))))) fa_nil))))
    (fss_one (fs_if (FT.ofW (fw_and (ft_cmp (kNotInD K hu) (fun _ => r2_notInA) (fe_var (pv 8)) (fe_var (pv 2))) (fw_and1 (ft_ninOwn K hu (fe_var (pv 8)) (pv 6)))))
    (fss_one (fs_app (pv 6) (fe_var (pv 8))))
    fss_nil)))
    fss_nil)))
    (fss_frz 6 (fss_cons (fs_setV (i := 3) sc__law_closed.nd rfl (by first | exact .inl rfl | exact .inr rfl) (fe_callB (kLen K) (fun _ => ra_len) T.n_len (fa_cons (fe_var (pv 2)) fa_nil)))
    (fss_cons (fs_setV (i := 2) sc__law_closed.nd rfl (by first | exact .inl rfl | exact .inr rfl) (fe_op (kAdd K) (fun _ => r2_addA) (fe_var (pv 2)) (fe_var (pv 6))))
    (fss_one (fs_if (FT.ofW (fw_or (ft_cmp (kEqD K hu) (fun _ => r2_eqD) (fe_callB (kLen K) (fun _ => ra_len) T.n_len (fa_cons (fe_var (pv 6)) fa_nil)) fe_int) (fw_or1 (ft_cmp (kEqD K hu) (fun _ => r2_eqD) (fe_callB (kLen K) (fun _ => ra_len) T.n_len (fa_cons (fe_var (pv 2)) fa_nil)) (fe_var (pv 4))))))
    (fss_one (fs_ret (fe_var (pv 2))))
    fss_nil))))))))
    (fss_one (fs_ret (fe_var (pv 2))))))))⟩
theorem Tx.ok__law_fulfils (T : Tx w K mg) : FnG P w K mg base 1 T.f__law_fulfils T.d__law_fulfils ["row", "clause"] (spM K mg 2 m__law_fulfils) := by
  refine ok_def T.F__law_fulfils sc__law_fulfils fun cdv A outer s H E hgd hr => ?_
  have tk := takes_def (P := P) (w := w) (K := K) (mg := mg) (base := base) (N := ["row", "clause", "values", "k"]) (qual := "_law_fulfils") (sc := defScope s__law_fulfils) (f := T.f__law_fulfils) (cd := cdv) (A := A) (outer := outer) (s := s) (H := H) (E := E)
  have hx := passAll (passes_call (E := E) tk (fun _ _ _ _ h => h))
  have hu := hu_of2 hr
  exact ⟨_, fun G => (fss_cons (fs_if (ft_cmp (kEqD K hu) (fun _ => r2_eqD) (fe_ix (kIx K) (fun _ => r2_ix) (fe_var (pv 1)) fe_int) fe_str)
    (fss_one (fs_ret (fe_or (fe_cmp (kNeD K hu) (fun _ => r2_neD) (fe_ix (kIx K) (fun _ => r2_ix) (fe_var (pv 0)) (fe_ix (kIx K) (fun _ => r2_ix) (fe_var (pv 1)) fe_int)) (fe_ix (kIx K) (fun _ => r2_ix) (fe_var (pv 1)) fe_int)) (fe_one (fe_cmp (kNeD K hu) (fun _ => r2_neD) (fe_ix (kIx K) (fun _ => r2_ix) (fe_var (pv 0)) (fe_ix (kIx K) (fun _ => r2_ix) (fe_var (pv 1)) fe_int)) (fe_ix (kIx K) (fun _ => r2_ix) (fe_var (pv 1)) fe_int))))))
    fss_nil)
    (fss_cons (FLcS.val (fs_lc 2 [("k", 3)] rfl sc__law_fulfils.nd rfl (by rfl) (sw_true rfl (by rfl) rfl (by kernel_rfl)) (blkOk_by (by kernel_rfl)) (it_seq K (fe_ix (kIx K) (fun _ => r2_ix) (fe_var (pv 1)) fe_int)) (fun _ _ _ _ _ => (gt_name (pg_name (i := 3) sc__law_fulfils.nd rfl (by first | exact .inl rfl | exact .inr rfl)))) (fun _ _ _ _ _ => fts_nil) (fun _ _ _ _ _ => (fe_ix (kIx K) (fun _ => r2_ix) (fe_var (pv 0)) (fe_var (pv 3))))))
    (fss_cons (fs_if (ft_cmp (kEqD K hu) (fun _ => r2_eqD) (fe_ix (kIx K) (fun _ => r2_ix) (fe_var (pv 1)) fe_int) fe_str)
    (fss_one (fs_ret (fe_cmp (kEqD K hu) (fun _ => r2_eqD) (fe_op op_mod (fun _ => r2_mod) (fe_callTy call_int1 (fun _ => ra_int) T.n_int (fa_cons (fe_callB (kSum K) (fun _ => ra_sumA) T.n_sum (fa_cons (fe_var (pv 2)) fa_nil)) fa_nil)) fe_int) (fe_ix (kIx K) (fun _ => r2_ix) (fe_var (pv 1)) fe_int))))
    fss_nil)
    (fss_one (fs_ret (fe_or (fe_cmp (kInD K hu) (fun _ => r2_inA) fe_int (fe_var (pv 2))) (fe_one (fe_and (fe_cmp (kEqD K hu) (fun _ => r2_eqD) (fe_callB (kLen K) (fun _ => ra_len) T.n_len (fa_cons (fe_var (pv 1)) fa_nil)) fe_int) (fe_one (fe_cmp (kEqD K hu) (fun _ => r2_eqD) (fe_ix (kIx K) (fun _ => r2_ix) (fe_var (pv 0)) (fe_ix (kIx K) (fun _ => r2_ix) (fe_var (pv 1)) fe_int)) fe_int))))))))))⟩
theorem Tx.ok__law_told (T : Tx w K mg) : FnG P w K mg base 2 T.f__law_told T.d__law_told ["size", "clauses"] (spM K mg 2 m__law_told) := by
  refine ok_def T.F__law_told sc__law_told fun cdv A outer s H E hgd hr => ?_
  have tk := takes_def (P := P) (w := w) (K := K) (mg := mg) (base := base) (N := ["size", "clauses", "found", "row", "clause"]) (qual := "_law_told") (sc := defScope s__law_told) (f := T.f__law_told) (cd := cdv) (A := A) (outer := outer) (s := s) (H := H) (E := E)
  have hx := passAll (passes_call (E := E) tk (fun _ _ _ _ h => h))
  have hu := hu_of2 hr
  exact ⟨_, fun G => (fss_cons (fs_setO (i := 2) sc__law_told.nd rfl (by first | exact .inl rfl | exact .inr rfl) (fn_lst fa_nil))
    (fss_cons (fs_forV own_def rfl (it_seq K (ke_call (T.ok__law_all_rows (P := P) (base := base)) hgd (hr.mono (by omega)) T.g__law_all_rows T.F__law_all_rows.kp T.b__law_all_rows hx (fa_cons (fe_var (pv 0)) fa_nil))) (fg_name (pg_name (i := 3) sc__law_told.nd rfl (by first | exact .inl rfl | exact .inr rfl)))
    (fss_one (fs_if (ft_cmp (kEqD K hu) (fun _ => r2_eqD) (fe_callB (kLen K) (fun _ => ra_len) T.n_len (fa_cons (FN.fe (fn_lc [("clause", 4)] rfl sc__law_told.nd (blkOk_by (by kernel_rfl)) (it_seq K (fe_var (pv 1))) (fun _ _ _ _ _ => (gt_name (pg_name (i := 4) sc__law_told.nd rfl (by first | exact .inl rfl | exact .inr rfl)))) (fun _ _ _ _ _ => (fts_one (ft_not (ft_val (ke_call (T.ok__law_fulfils (P := P) (base := base)) hgd (hr.mono (by omega)) T.g__law_fulfils T.F__law_fulfils.kp T.b__law_fulfils (passAll passL) (fa_cons (fe_var (pv 3)) (fa_cons (fe_var (pv 4)) fa_nil))))))) (fun _ _ _ _ _ => (fe_var (pv 4))))) fa_nil)) fe_int)
    (fss_one (fs_app (pv 2) (fe_var (pv 3))))
    fss_nil)))
    (fss_frz 2 (fss_one (fs_ret (fe_tup (fa_cons (fe_var (pv 0)) (fa_cons (fe_callTy (kTuple K) (fun _ => ra_tuple) T.n_tuple (fa_cons (fe_var (pv 2)) fa_nil)) fa_nil))))))))⟩
theorem Tx.ok__law_any (T : Tx w K mg) : FnG P w K mg base 2 T.f__law_any T.d__law_any ["hand"] (spM K mg 1 m__law_any) := by
  refine ok_def T.F__law_any sc__law_any fun cdv A outer s H E hgd hr => ?_
  have tk := takes_def (P := P) (w := w) (K := K) (mg := mg) (base := base) (N := ["hand", "size", "every", "rows", "k", "row"]) (qual := "_law_any") (sc := defScope s__law_any) (f := T.f__law_any) (cd := cdv) (A := A) (outer := outer) (s := s) (H := H) (E := E)
  have hx := passAll (passes_call (E := E) tk (fun _ _ _ _ h => h))
  have hu := hu_of2 hr
  exact ⟨_, fun G => (fss_cons (fs_setV (i := 1) sc__law_any.nd rfl (by first | exact .inl rfl | exact .inr rfl) (fe_op (kAdd K) (fun _ => r2_addA) fe_int (ke_call (T.ok__law_take (P := P) (base := base)) hgd (hr.mono (by omega)) T.g__law_take T.F__law_take.kp T.b__law_take hx (fa_cons (fe_var (pv 0)) (fa_cons fe_int fa_nil)))))
    (fss_cons (fs_setV (i := 2) sc__law_any.nd rfl (by first | exact .inl rfl | exact .inr rfl) (ke_call (T.ok__law_all_rows (P := P) (base := base)) hgd (hr.mono (by omega)) T.g__law_all_rows T.F__law_all_rows.kp T.b__law_all_rows hx (fa_cons (fe_var (pv 1)) fa_nil)))
    (fss_cons (fs_setO (i := 3) sc__law_any.nd rfl (by first | exact .inl rfl | exact .inr rfl) (fn_lst fa_nil))
    (fss_cons (fs_forV own_def rfl (fit_range1 T.n_range (fa_cons (fe_ix (kIx K) (fun _ => r2_ix) (FN.fe (fn_lst (fa_cons (fe_op (kAdd K) (fun _ => r2_addA) fe_int (ke_call (T.ok__law_take (P := P) (base := base)) hgd (hr.mono (by omega)) T.g__law_take T.F__law_take.kp T.b__law_take hx (fa_cons (fe_var (pv 0)) (fa_cons fe_int fa_nil)))) (fa_cons (fe_op (kAdd K) (fun _ => r2_addA) fe_int (ke_call (T.ok__law_take (P := P) (base := base)) hgd (hr.mono (by omega)) T.g__law_take T.F__law_take.kp T.b__law_take hx (fa_cons (fe_var (pv 0)) (fa_cons fe_int fa_nil)))) (fa_cons (fe_op (kAdd K) (fun _ => r2_addA) fe_int (ke_call (T.ok__law_take (P := P) (base := base)) hgd (hr.mono (by omega)) T.g__law_take T.F__law_take.kp T.b__law_take hx (fa_cons (fe_var (pv 0)) (fa_cons fe_int fa_nil)))) fa_nil))))) (ke_call (T.ok__law_take (P := P) (base := base)) hgd (hr.mono (by omega)) T.g__law_take T.F__law_take.kp T.b__law_take hx (fa_cons (fe_var (pv 0)) (fa_cons fe_int fa_nil)))) fa_nil)) (fg_name (pg_name (i := 4) sc__law_any.nd rfl (by first | exact .inl rfl | exact .inr rfl)))
    (fss_one (fs_app (pv 3) (fe_ix (kIx K) (fun _ => r2_ix) (fe_var (pv 2)) (ke_call (T.ok__law_take (P := P) (base := base)) hgd (hr.mono (by omega)) T.g__law_take T.F__law_take.kp T.b__law_take hx (fa_cons (fe_var (pv 0)) (fa_cons (fe_callB (kLen K) (fun _ => ra_len) T.n_len (fa_cons (fe_var (pv 2)) fa_nil)) fa_nil)))))))
    (fss_frz 3 (fss_one (fs_ret (fe_tup (fa_cons (fe_var (pv 1)) (fa_cons (fe_callTy (kTuple K) (fun _ => ra_tuple) T.n_tuple (fa_cons (FN.fe (fn_lc [("row", 5)] rfl sc__law_any.nd (blkOk_by (by kernel_rfl)) (it_seq K (fe_var (pv 2))) (fun _ _ _ _ _ => (gt_name (pg_name (i := 5) sc__law_any.nd rfl (by first | exact .inl rfl | exact .inr rfl)))) (fun _ _ _ _ _ => (fts_one (ft_cmp (kInD K hu) (fun _ => r2_inA) (fe_var (pv 5)) (fe_var (pv 3))))) (fun _ _ _ _ _ => (fe_var (pv 5))))) fa_nil)) fa_nil))))))))))⟩
theorem Tx.ok__law_is_number (T : Tx w K mg) : FnG P w K mg base 1 T.f__law_is_number T.d__law_is_number ["value", "most"] (spM K mg 2 m__law_is_number) := by
  refine ok_def T.F__law_is_number sc__law_is_number fun cdv A outer s H E hgd hr => ?_
  have tk := takes_def (P := P) (w := w) (K := K) (mg := mg) (base := base) (N := ["value", "most"]) (qual := "_law_is_number") (sc := defScope s__law_is_number) (f := T.f__law_is_number) (cd := cdv) (A := A) (outer := outer) (s := s) (H := H) (E := E)
  have hx := passAll (passes_call (E := E) tk (fun _ _ _ _ h => h))
  have hu := hu_of2 hr
  exact ⟨_, fun G => (fss_one (fs_ret (fe_and (ke_isi K (T := "int") T.n_isinstance T.n_int (fe_var (pv 0))) (fe_and (fe_not (ke_isi K (T := "bool") T.n_isinstance T.n_bool (fe_var (pv 0)))) (fe_and (fe_cmp (kGe K hu) (fun _ => r2_geA) (fe_var (pv 0)) fe_int) (fe_one (fe_cmp op_lt (fun _ => r2_lt) (fe_var (pv 0)) (fe_var (pv 1)))))))))⟩
theorem Tx.ok__law_are_places (T : Tx w K mg) : FnG P w K mg base 2 T.f__law_are_places T.d__law_are_places ["size", "value"] (spM K mg 2 m__law_are_places) := by
  refine ok_def T.F__law_are_places sc__law_are_places fun cdv A outer s H E hgd hr => ?_
  have tk := takes_def (P := P) (w := w) (K := K) (mg := mg) (base := base) (N := ["size", "value", "k"]) (qual := "_law_are_places") (sc := defScope s__law_are_places) (f := T.f__law_are_places) (cd := cdv) (A := A) (outer := outer) (s := s) (H := H) (E := E)
  have hx := passAll (passes_call (E := E) tk (fun _ _ _ _ h => h))
  have hu := hu_of2 hr
  exact ⟨_, fun G => (fss_cons (fs_if (FT.ofW (fw_or (ft_not (ft_val (ke_isi K (T := "tuple") T.n_isinstance T.n_tuple (fe_var (pv 1))))) (fw_or1 (ft_cmp op_gt (fun _ => r2_gt) (fe_callB (kLen K) (fun _ => ra_len) T.n_len (fa_cons (FN.fe (fn_lc [("k", 2)] rfl sc__law_are_places.nd (blkOk_by (by kernel_rfl)) (it_seq K (fe_var (pv 1))) (fun _ _ _ _ _ => (gt_name (pg_name (i := 2) sc__law_are_places.nd rfl (by first | exact .inl rfl | exact .inr rfl)))) (fun _ _ _ _ _ => (fts_one (ft_not (ft_val (ke_call (T.ok__law_is_number (P := P) (base := base)) hgd (hr.mono (by omega)) T.g__law_is_number T.F__law_is_number.kp T.b__law_is_number (passAll passL) (fa_cons (fe_var (pv 2)) (fa_cons (fe_var (pv 0)) fa_nil))))))) (fun _ _ _ _ _ => (fe_var (pv 2))))) fa_nil)) fe_int))))
    (fss_one (fs_ret fe_bl))
    fss_nil)
    (fss_one (fs_ret (fe_cmp (kEqD K hu) (fun _ => r2_eqD) (fe_callB (kLen K) (fun _ => ra_len) T.n_len (fa_cons (FN.fe (fn_lc [("k", 2)] rfl sc__law_are_places.nd (blkOk_by (by kernel_rfl)) (fit_range2 T.n_range (fa_cons fe_int (fa_cons (fe_callB (kLen K) (fun _ => ra_len) T.n_len (fa_cons (fe_var (pv 1)) fa_nil)) fa_nil))) (fun _ _ _ _ _ => (gt_name (pg_name (i := 2) sc__law_are_places.nd rfl (by first | exact .inl rfl | exact .inr rfl)))) (fun _ _ _ _ _ => (fts_one (ft_cmp (kGe K hu) (fun _ => r2_geA) (fe_ix (kIx K) (fun _ => r2_ix) (fe_var (pv 1)) (fe_op op_sub (fun _ => r2_sub) (fe_var (pv 2)) fe_int)) (fe_ix (kIx K) (fun _ => r2_ix) (fe_var (pv 1)) (fe_var (pv 2)))))) (fun _ _ _ _ _ => (fe_var (pv 2))))) fa_nil)) fe_int))))⟩
theorem Tx.ok__law_is_clause (T : Tx w K mg) : FnG P w K mg base 3 T.f__law_is_clause T.d__law_is_clause ["size", "clause"] (spM K mg 2 m__law_is_clause) := by
  refine ok_def T.F__law_is_clause sc__law_is_clause fun cdv A outer s H E hgd hr => ?_
  have tk := takes_def (P := P) (w := w) (K := K) (mg := mg) (base := base) (N := ["size", "clause"]) (qual := "_law_is_clause") (sc := defScope s__law_is_clause) (f := T.f__law_is_clause) (cd := cdv) (A := A) (outer := outer) (s := s) (H := H) (E := E)
  have hx := passAll (passes_call (E := E) tk (fun _ _ _ _ h => h))
  have hu := hu_of2 hr
  exact ⟨_, fun G => (fss_cons (fs_if (ft_cmp (kEqD K hu) (fun _ => r2_eqD) (fe_var (pv 0)) fe_int)
    (fss_cons (fs_if (FT.ofW (fw_or (ft_not (ft_val (ke_isi K (T := "tuple") T.n_isinstance T.n_tuple (fe_var (pv 1))))) (fw_or (ft_cmp (kNotInD K hu) (fun _ => r2_notInA) (fe_callB (kLen K) (fun _ => ra_len) T.n_len (fa_cons (fe_var (pv 1)) fa_nil)) (FN.fe (fn_lst (fa_cons fe_int (fa_cons fe_int fa_nil))))) (fw_or1 (ft_cmp (kNeD K hu) (fun _ => r2_neD) (fe_ix (kIx K) (fun _ => r2_ix) (fe_var (pv 1)) fe_int) fe_str)))))
    (fss_one (fs_ret fe_bl))
    fss_nil)
    (fss_one (fs_ret (fe_and (ke_call (T.ok__law_are_places (P := P) (base := base)) hgd (hr.mono (by omega)) T.g__law_are_places T.F__law_are_places.kp T.b__law_are_places hx (fa_cons fe_int (fa_cons (fe_ix (kIx K) (fun _ => r2_ix) (fe_var (pv 1)) fe_int) fa_nil))) (fe_one (fe_or (fe_cmp (kEqD K hu) (fun _ => r2_eqD) (fe_callB (kLen K) (fun _ => ra_len) T.n_len (fa_cons (fe_var (pv 1)) fa_nil)) fe_int) (fe_one (ke_call (T.ok__law_is_number (P := P) (base := base)) hgd (hr.mono (by omega)) T.g__law_is_number T.F__law_is_number.kp T.b__law_is_number hx (fa_cons (fe_ix (kIx K) (fun _ => r2_ix) (fe_var (pv 1)) fe_int) (fa_cons fe_int fa_nil))))))))))
    fss_nil)
    (fss_cons (fs_if (FT.ofW (fw_or (ft_not (ft_val (ke_isi K (T := "tuple") T.n_isinstance T.n_tuple (fe_var (pv 1))))) (fw_or (ft_cmp (kNeD K hu) (fun _ => r2_neD) (fe_callB (kLen K) (fun _ => ra_len) T.n_len (fa_cons (fe_var (pv 1)) fa_nil)) fe_int) (fw_or1 (ft_cmp (kNeD K hu) (fun _ => r2_neD) (fe_ix (kIx K) (fun _ => r2_ix) (fe_var (pv 1)) fe_int) fe_str)))))
    (fss_one (fs_ret fe_bl))
    fss_nil)
    (fss_cons (fs_if (ft_not (ft_val (ke_call (T.ok__law_are_places (P := P) (base := base)) hgd (hr.mono (by omega)) T.g__law_are_places T.F__law_are_places.kp T.b__law_are_places hx (fa_cons (fe_var (pv 0)) (fa_cons (fe_slice (kSl K) (fun _ => rsl) (fe_var (pv 1)) (fo_some fe_int) (fo_some fe_int)) fa_nil)))))
    (fss_one (fs_ret fe_bl))
    fss_nil)
    (fss_one (fs_ret (fe_and (ke_call (T.ok__law_is_number (P := P) (base := base)) hgd (hr.mono (by omega)) T.g__law_is_number T.F__law_is_number.kp T.b__law_is_number hx (fa_cons (fe_ix (kIx K) (fun _ => r2_ix) (fe_var (pv 1)) fe_int) (fa_cons fe_int fa_nil))) (fe_one (ke_call (T.ok__law_is_number (P := P) (base := base)) hgd (hr.mono (by omega)) T.g__law_is_number T.F__law_is_number.kp T.b__law_is_number hx (fa_cons (fe_ix (kIx K) (fun _ => r2_ix) (fe_var (pv 1)) fe_int) (fa_cons fe_int fa_nil))))))))))⟩
theorem Tx.ok_law (T : Tx w K mg) : FnG P w K mg base 6 T.f_law T.d_law ["script"] (spM K mg 1 m_law) := by
  refine ok_def T.F_law sc_law fun cdv A outer s H E hgd hr => ?_
  have tk := takes_def (P := P) (w := w) (K := K) (mg := mg) (base := base) (N := ["script", "hand", "t", "size", "rows", "relation", "clauses", "closed", "due", "clause", "row"]) (qual := "law") (sc := defScope s_law) (f := T.f_law) (cd := cdv) (A := A) (outer := outer) (s := s) (H := H) (E := E)
  have hx := passAll (passes_call (E := E) tk (fun _ _ _ _ h => h))
  have hu := hu_of2 hr
  exact ⟨_, fun G => (fss_cons (fs_setS (i := 1) sc_law.nd rfl (by first | exact .inl rfl | exact .inr rfl) (fn_lst (fa_cons (ke_call (T.ok__law_draws (P := P) (base := base)) hgd (hr.mono (by omega)) T.g__law_draws T.F__law_draws.kp T.b__law_draws hx (fa_cons (fe_var (pv 0)) (fa_cons fe_int fa_nil))) (fa_cons fe_int fa_nil))))
    (fss_cons (fs_forV own_def rfl (fit_range1 T.n_range (fa_cons fe_int fa_nil)) (fg_name (pg_name (i := 2) sc_law.nd rfl (by first | exact .inl rfl | exact .inr rfl)))
    (fss_cons (fs_asgT (ke_call (T.ok__law_any (P := P) (base := base)) hgd (hr.mono (by omega)) T.g__law_any T.F__law_any.kp T.b__law_any hx (fa_cons (fe_var (pv 1)) fa_nil)) (gk_un K (fgs_cons (fg_name (pg_name (i := 3) sc_law.nd rfl (by first | exact .inl rfl | exact .inr rfl))) (fgs_cons (fg_name (pg_name (i := 4) sc_law.nd rfl (by first | exact .inl rfl | exact .inr rfl))) fgs_nil (pgs_cons (pg_name (i := 4) sc_law.nd rfl (by first | exact .inl rfl | exact .inr rfl)) pgs_nil)) (pgs_cons (pg_name (i := 3) sc_law.nd rfl (by first | exact .inl rfl | exact .inr rfl)) (pgs_cons (pg_name (i := 4) sc_law.nd rfl (by first | exact .inl rfl | exact .inr rfl)) pgs_nil))) (pg_tup rfl (pgs_cons (pg_name (i := 3) sc_law.nd rfl (by first | exact .inl rfl | exact .inr rfl)) (pgs_cons (pg_name (i := 4) sc_law.nd rfl (by first | exact .inl rfl | exact .inr rfl)) pgs_nil))) (pg_lst rfl (pgs_cons (pg_name (i := 3) sc_law.nd rfl (by first | exact .inl rfl | exact .inr rfl)) (pgs_cons (pg_name (i := 4) sc_law.nd rfl (by first | exact .inl rfl | exact .inr rfl)) pgs_nil)))))
    (fss_cons (fs_setV (i := 5) sc_law.nd rfl (by first | exact .inl rfl | exact .inr rfl) (ke_make T.k_Relation.M (T.oki_Relation (P := P) (base := base)) hgd (hr.mono (by omega)) T.k_Relation.g T.bi_Relation hx (fa_cons (fe_var (pv 3)) (fa_cons (fe_var (pv 4)) fa_nil))))
    (fss_cons (fs_setV (i := 6) sc_law.nd rfl (by first | exact .inl rfl | exact .inr rfl) (ke_call (T.ok_pair_clauses (P := P) (base := base)) hgd (hr.mono (by omega)) T.g_pair_clauses T.F_pair_clauses.kp T.b_pair_clauses hx (fa_cons (fe_var (pv 5)) fa_nil)))
    (fss_cons (fs_if (ft_not (ft_val (ke_isi K (T := "tuple") T.n_isinstance T.n_tuple (fe_var (pv 6)))))
    (fss_one (fs_ret fe_bl))
    fss_nil)
    (fss_cons (fs_if (ft_cmp op_gt (fun _ => r2_gt) (fe_callB (kLen K) (fun _ => ra_len) T.n_len (fa_cons (FN.fe (fn_lc [("clause", 9)] rfl sc_law.nd (blkOk_by (by kernel_rfl)) (it_seq K (fe_var (pv 6))) (fun _ _ _ _ _ => (gt_name (pg_name (i := 9) sc_law.nd rfl (by first | exact .inl rfl | exact .inr rfl)))) (fun _ _ _ _ _ => (fts_one (ft_not (ft_val (ke_call (T.ok__law_is_clause (P := P) (base := base)) hgd (hr.mono (by omega)) T.g__law_is_clause T.F__law_is_clause.kp T.b__law_is_clause (passAll passL) (fa_cons (fe_var (pv 3)) (fa_cons (fe_var (pv 9)) fa_nil))))))) (fun _ _ _ _ _ => (fe_var (pv 9))))) fa_nil)) fe_int)
    (fss_one (fs_ret fe_bl))
    fss_nil)
    (fss_cons (fs_setV (i := 7) sc_law.nd rfl (by first | exact .inl rfl | exact .inr rfl) (ke_call (T.ok__law_closed (P := P) (base := base)) hgd (hr.mono (by omega)) T.g__law_closed T.F__law_closed.kp T.b__law_closed hx (fa_cons (fe_var (pv 4)) (fa_cons (ke_call (T.ok__law_table (P := P) (base := base)) hgd (hr.mono (by omega)) T.g__law_table T.F__law_table.kp T.b__law_table hx (fa_cons fe_str fa_nil)) fa_nil))))
    (fss_cons (fs_setV (i := 8) sc_law.nd rfl (by first | exact .inl rfl | exact .inr rfl) (fe_tup (fa_cons (fe_var (pv 3)) (fa_cons (fe_callTy (kTuple K) (fun _ => ra_tuple) T.n_tuple (fa_cons (FN.fe (fn_lc [("row", 10)] rfl sc_law.nd (blkOk_by (by kernel_rfl)) (it_seq K (ke_call (T.ok__law_all_rows (P := P) (base := base)) hgd (hr.mono (by omega)) T.g__law_all_rows T.F__law_all_rows.kp T.b__law_all_rows hx (fa_cons (fe_var (pv 3)) fa_nil))) (fun _ _ _ _ _ => (gt_name (pg_name (i := 10) sc_law.nd rfl (by first | exact .inl rfl | exact .inr rfl)))) (fun _ _ _ _ _ => (fts_one (ft_cmp (kInD K hu) (fun _ => r2_inA) (fe_var (pv 10)) (fe_var (pv 7))))) (fun _ _ _ _ _ => (fe_var (pv 10))))) fa_nil)) fa_nil))))
    (fss_cons (fs_if (FT.ofW (fw_or (ft_cmp (kNeD K hu) (fun _ => r2_neD) (ke_call (T.ok__law_told (P := P) (base := base)) hgd (hr.mono (by omega)) T.g__law_told T.F__law_told.kp T.b__law_told hx (fa_cons (fe_var (pv 3)) (fa_cons (fe_var (pv 6)) fa_nil))) (fe_var (pv 8))) (fw_or1 (ft_cmp (kNeD K hu) (fun _ => r2_neD) (fe_callB (kReprU K hu hgd) (fun _ => ra_repr) T.n_repr (fa_cons (fe_tup (fa_cons (fe_fldI T.k_Relation.C (T.k_Relation.n _ (by simp)) (fe_var (pv 5))) (fa_cons (fe_fldI T.k_Relation.C (T.k_Relation.n _ (by simp)) (fe_var (pv 5))) fa_nil))) fa_nil)) (fe_callB (kReprU K hu hgd) (fun _ => ra_repr) T.n_repr (fa_cons (fe_tup (fa_cons (fe_var (pv 3)) (fa_cons (fe_var (pv 4)) fa_nil))) fa_nil))))))
    (fss_one (fs_ret fe_bl))
    fss_nil)
    (fss_one (fs_if (ft_cmp (kNeD K hu) (fun _ => r2_neD) (fe_callB (kReprU K hu hgd) (fun _ => ra_repr) T.n_repr (fa_cons (ke_call (T.ok_pair_clauses (P := P) (base := base)) hgd (hr.mono (by omega)) T.g_pair_clauses T.F_pair_clauses.kp T.b_pair_clauses hx (fa_cons (fe_var (pv 5)) fa_nil)) fa_nil)) (fe_callB (kReprU K hu hgd) (fun _ => ra_repr) T.n_repr (fa_cons (fe_var (pv 6)) fa_nil)))
    (fss_one (fs_ret fe_bl))
    fss_nil)))))))))))
    (fss_one (fs_ret fe_bl))))⟩
end
end K35
set_option maxHeartbeats 4000000
namespace Mir
open PySem L2
section
variable {ρ : Rho} {S : Store} {i : Nat} {a b : Rho → Store → Res PV} {n : Rho → Store → Res SO} {as : Rho → Store → Res (List PV)} {ks : List Key}
theorem ev_shr : mShr n ρ S = (n ρ S).bind fun o S1 => .ok (.obj S1.length) (S1 ++ [o]) := nrfl rfl
theorem ev_disp : mDisp ks as ρ S = (as ρ S).bind fun xs S1 => if xs.length = ks.length then .ok (.dk ks xs) S1 else .bad := nrfl rfl
theorem ev_dput : mDPut i b a ρ S = (a ρ S).bind fun y S1 => match ρ[i]? with
  | some (.own (.dk ks xs)) => (b ρ S1).bind fun k S2 => setK i ks xs y ρ k S2
  | some (.val (.obj n)) => (b ρ S1).bind fun k S2 => setKO n y ρ k S2
  | _ => .bad := nrfl rfl
theorem ev_tru : mTru a ρ S = (a ρ S).bind gTru := nrfl rfl
end
end Mir
set_option maxHeartbeats 4000000
namespace Mir
open PySem L2
/-- data without objects -/
def Clean (v : PV) : Prop := (toD v).isSome = true
theorem Clean.no {v : PV} (h : Clean v) : NoObj v := by
  unfold NoObj
  cases v <;> first | rfl | (unfold Clean at h; simp [toD] at h)
theorem toDs_mem : ∀ {xs : List PV}, (toDs xs).isSome = true → ∀ x ∈ xs, Clean x
  | [], _, x, h => nomatch h
  | y :: ys, h, x, hx => by
    simp only [toDs] at h
    cases h1 : toD y with
    | none => rw [h1] at h; cases h
    | some d =>
      cases h2 : toDs ys with
      | none => rw [h1, h2] at h; cases h
      | some ds =>
        rcases List.mem_cons.mp hx with rfl | hx
        · unfold Clean; rw [h1]; rfl
        · exact toDs_mem (by rw [h2]; rfl) x hx
theorem Clean.tup {xs : List PV} (h : Clean (.tup xs)) : ∀ x ∈ xs, Clean x := by
  unfold Clean at h
  simp only [toD, Option.isSome_map] at h
  exact toDs_mem h
theorem Clean.npt {xs : List PV} (h : Clean (.pt xs)) : False := by
  unfold Clean at h
  simp [toD] at h
theorem Clean.lst {xs : List PV} (h : Clean (.lst xs)) : ∀ x ∈ xs, Clean x := by
  unfold Clean at h
  simp only [toD, Option.isSome_map] at h
  exact toDs_mem h
theorem toDs_some : ∀ {xs : List PV}, (∀ x ∈ xs, Clean x) → (toDs xs).isSome = true
  | [], _ => rfl
  | y :: ys, h => by
    have h1 := h y List.mem_cons_self
    have h2 := toDs_some fun x hx => h x (List.mem_cons_of_mem y hx)
    simp only [toDs]
    unfold Clean at h1
    cases e1 : toD y with
    | none => rw [e1] at h1; cases h1
    | some d =>
      cases e2 : toDs ys with
      | none => rw [e2] at h2; cases h2
      | some ds => rfl
theorem clean_tup {xs : List PV} (h : ∀ x ∈ xs, Clean x) : Clean (.tup xs) := by
  unfold Clean
  simp only [toD, Option.isSome_map]
  exact toDs_some h
theorem clean_lst {xs : List PV} (h : ∀ x ∈ xs, Clean x) : Clean (.lst xs) := by
  unfold Clean
  simp only [toD, Option.isSome_map]
  exact toDs_some h
theorem clean_row (r : List Int) : Clean (rowP r) := by unfold Clean; rw [toD_row]; rfl
theorem sm_by {y : PV} {w k : Nat} (d : PyData) (h : toD y = some d) (h2 : (PyData.showable d && (d.leavesShort 30 && (decide (d.weight ≤ w) && decide (d.depth ≤ k)))) = true) : Sm y w k := by
  simp only [Bool.and_eq_true, decide_eq_true_eq] at h2
  exact ⟨d, h, h2.1, h2.2.1, h2.2.2.1, h2.2.2.2⟩
theorem pln_by {y : PV} (d : PyData) (h : toD y = some d) (h2 : plainD d = true) : Pln y := fun e he => by
  rw [h] at he
  cases he
  exact h2
/-- small data with a plain text -/
structure Dat (y : PV) (w k : Nat) : Prop where
  cl : Clean y
  sm : Sm y w k
  pl : Pln y
theorem Dat.mono {y : PV} {w k w' k' : Nat} (h : Dat y w k) (h1 : w ≤ w') (h2 : k ≤ k') : Dat y w' k' := ⟨h.cl, h.sm.mono h1 h2, h.pl⟩
theorem dat_by {y : PV} {w k : Nat} (d : PyData) (h : toD y = some d) (h2 : (PyData.showable d && (d.leavesShort 30 && (decide (d.weight ≤ w) && decide (d.depth ≤ k)))) = true) (h3 : plainD d = true) : Dat y w k :=
  ⟨by unfold Clean; rw [h]; rfl, sm_by d h h2, pln_by d h h3⟩
theorem dat_tup {xs : List PV} {w k : Nat} (h : ∀ x ∈ xs, Dat x w k) : Dat (.tup xs) ((w + 1) * xs.length) (k + 1) := ⟨clean_tup fun x hx => (h x hx).cl, sm_tup fun x hx => (h x hx).sm, pln_tup fun x hx => (h x hx).pl⟩
theorem dat_bit {b : Int} (h : b = 0 ∨ b = 1) : Dat (.int b) 1 0 := ⟨rfl, sm_bit h, pln_int b⟩
theorem Dat.text {y : PV} {w k : Nat} (h : Dat y w k) (hw : w ≤ 3000) (hk : k ≤ 60) : ∃ s : Str, PyData.strOk s = true ∧ ∀ S, gRepr [y] S = .ok (.str s) S := by
  obtain ⟨s, hs⟩ := sm_repr h.sm hw hk []
  refine ⟨s, repr_pln h.pl hs, fun S => ?_⟩
  obtain ⟨s', hs'⟩ := sm_repr h.sm hw hk S
  have e : s' = s := by
    have e1 : (match toD y with | some d => (if reprOk d = true then Res.ok (PV.str d.shown) [] else .bad) | none => .bad) = Res.ok (PV.str s) [] := hs
    have e2 : (match toD y with | some d => (if reprOk d = true then Res.ok (PV.str d.shown) S else .bad) | none => .bad) = Res.ok (PV.str s') S := hs'
    cases q : toD y with
    | none => rw [q] at e1; cases e1
    | some d =>
      rw [q] at e1 e2
      simp only at e1 e2
      split at e1
      · rename_i c
        rw [if_pos c] at e2
        cases e1
        cases e2
        rfl
      · cases e1
  rw [hs', e]
def isBitP : PV → Bool
  | .int i => decide (0 ≤ i) && decide (i ≤ 1)
  | _ => false
def rng (n : Nat) : List PV := (List.range n).map fun (k : Nat) => PV.int (k : Int)
theorem bit_at {r : List Int} (hb : Bits r) (j : Nat) : r.getD j 0 = 0 ∨ r.getD j 0 = 1 := by
  rw [List.getD_eq_getElem?_getD]
  cases h : r[j]? with
  | none => exact .inl rfl
  | some v => exact hb v (List.mem_of_getElem? h)
end Mir
namespace Mir
open PySem L2
section
variable {g : PV → Rho → Store → Res Rho} {t : Rho → Store → Res Bool} {a : Rho → Store → Res PV} {ρ : Rho}
theorem lc_mapL {α : Type} {S : Store} (F G : α → PV) : ∀ {ps : List α}, (∀ p ∈ ps, ∃ ρ1, g (F p) ρ S = .ok ρ1 S ∧ t ρ1 S = .ok true S ∧ a ρ1 S = .ok (G p) S) → mLcGo g t a ρ (ps.map F) S = .ok (ps.map G) S
  | [], _ => rfl
  | p :: ps, h => by
    obtain ⟨ρ1, e1, e2, e3⟩ := h p List.mem_cons_self
    have ih := lc_mapL F G (ps := ps) fun q hq => h q (List.mem_cons_of_mem _ hq)
    simp only [List.map_cons, mLcGo, e1, Res.nox, Res.bind, e2, if_true, e3, ih]
end
end Mir
set_option maxHeartbeats 4000000
namespace Mir
open PySem L2
section
variable {g : PV → Rho → Store → Res Rho} {t : Rho → Store → Res Bool} {a : Rho → Store → Res PV} {ρ : Rho}
end
/-- x in a list of ints -/
def inB (neg : Bool) (c : Int) (ps : List Int) : Bool := if neg then !((ps.map PyData.int).any fun z => PyData.eqv z (.int c)) else (ps.map PyData.int).any fun z => PyData.eqv z (.int c)
theorem shaped_ints (r : List Int) : SeqAt.shaped (.list (r.map PyData.int)) = true := by
  unfold SeqAt.shaped
  simp only [PyData.canLay0, lay_ints, PyData.depth, depth_ints, Bool.true_and]
  rfl
theorem inD_ints (neg : Bool) (c : Int) (ps : List Int) (S : Store) : gInD neg (.int c) (.lst (ps.map PV.int)) S = .ok (.bl (inB neg c ps)) S := by
  unfold gInD
  simp only [toD, toDs_ints, Option.map_some, shaped_ints, shaped_int, Bool.and_self, if_true]
  rfl
end Mir
set_option maxHeartbeats 4000000
namespace Mir
open PySem L2
section
variable {α β : Type} {ρ : Rho} {S : Store} {a b k v : Rho → Store → Res PV} {t : Rho → Store → Res Bool} {g : PV → Rho → Store → Res Rho} {it : Rho → Store → Res (List PV)} {as : Rho → Store → Res (List PV)}
theorem ev_make {n : Nat} {c : Str} {ns : List Str} {m : List PV → Store → Res (List PV)} : mMake n c ns m as ρ S = (as ρ S).bind fun xs S1 => if xs.length = n then (m xs S1).bind fun ys S2 => .ok (.ins c ns ys) S2 else .bad := nrfl rfl
theorem ev_fldI {c f : Str} : mFldI c f a ρ S = (a ρ S).bind fun x S1 => match x with
  | .ins c' ns xs => if c' = c then (match (ns.zip xs).lookup f with
    | some y => .ok y S1
    | none => .bad) else .bad
  | _ => .bad := nrfl rfl
theorem ev_isiC {c : Str} : mIsiC c a ρ S = (a ρ S).bind fun x S1 => match x with
  | .ins c' _ _ => if c' = c then .ok (.bl true) S1 else .bad
  | _ => .bad := nrfl rfl
theorem ev_sortD {B : Int} {vs : List Nat} : mSortD B it g t k v vs ρ S = (it ρ S).bind fun xs S1 => if xs.length ≤ sizeM then (mLcGo g t (mKey k v) (mWipe ρ vs) xs S1).bind (sortV B) else .bad := nrfl rfl
theorem ev_key : mKey k v ρ S = (k ρ S).bind fun y S1 => (v ρ S1).bind fun _ S2 => match toRow y with
  | some _ => .ok y S2
  | none => .bad := nrfl rfl
theorem ev_join : mJoin a b ρ S = (a ρ S).bind fun x S1 => match x with
  | .str c => (b ρ S1).bind fun y S2 => gJoin (.str c) y S2
  | _ => .bad := nrfl rfl
end
def B_below : Rho → Store → Res Out :=
  (mRet (mAndV (mIsi "int" (mVar 0)) (mAndV (mNotV (mIsi "bool" (mVar 0))) (mChain gLe gLt (mC (.int 0)) (mVar 0) (mVar 1)))))
def B_isrow : Rho → Store → Res Out :=
  (mSeq (mIfS (mOr (mNot (mB (mIsi "tuple" (mVar 0)))) (mB (mOp (gEqD true) (mArgs gLen (mCons (mVar 0) mNil)) (mVar 1))))
    (mRet (mC (.bl false)))
    mSkip)
    (mSeq (mFor (mSeqOf (mVar 0)) (gNm 2)
    (mIfS (mNot (mB (mCall 2 (mDef 2 B_below) [] (mCons (mVar 2) (mCons (mC (.int 2)) mNil)))))
    (mRet (mC (.bl false)))
    mSkip))
    (mRet (mC (.bl true)))))
def B_arerows : Rho → Store → Res Out :=
  (mSeq (mIfS (mOr (mNot (mB (mIsiT ["list", "tuple"] (mVar 0)))) (mB (mOp (gEqD false) (mArgs gLen (mCons (mVar 0) mNil)) (mC (.int 0)))))
    (mRet (mC (.bl false)))
    mSkip)
    (mSeq (mFor (mSeqOf (mVar 0)) (gNm 2)
    (mIfS (mNot (mB (mCall 2 (mDef 3 B_isrow) [] (mCons (mVar 2) (mCons (mVar 1) mNil)))))
    (mRet (mC (.bl false)))
    mSkip))
    (mRet (mC (.bl true)))))
def belowB (m : Int) : PV → Bool
  | .int i => decide (0 ≤ i) && decide (i < m)
  | _ => false
theorem bel_ok {v : PV} (h : NoObj v) (m : Int) (S : Store) : mDef 2 B_below [v, .int m] S = .ok (.bl (belowB m v)) S := by
  show (B_below [.val v, .val (.int m)] S).bind toRet = _
  unfold B_below
  simp only [ev_bind, ev_nox, ev_seq, ev_set, ev_setOwn, ev_share, ev_drop, ev_ret, ev_retOwn, ev_skip, ev_brk, ev_cnt, ev_ifS, ev_frzS, ev_append, ev_setIx, ev_for, ev_lc, ev_seqOf, ev_range, ev_var, ev_c, ev_op, ev_un, ev_args, ev_nil, ev_cons, ev_frz, ev_b, ev_and, ev_or, ev_not, ev_andV, ev_orV, ev_notV, ev_if, ev_chain, ev_isi, ev_ixOwn, ev_lenOwn, ev_call, ev_callK, ev_sl, ev_part, ev_true, ev_nm, ev_toB, frz, frzAt, toSeq_tup, toSeq_pt, toSeq_lst, toSeq_cl, toRet, mWipe, kbG, Mir.gTup, Mir.gLst, List.getElem?_cons_zero, List.getElem?_cons_succ, List.set_cons_zero, List.set_cons_succ, List.length_cons, List.length_nil, List.append_nil, List.nil_append, List.cons_append, Nat.reduceAdd, Nat.reduceLeDiff, Nat.reduceEqDiff, Nat.zero_add, reduceIte, Bool.false_eq_true, Bool.not_true, Bool.not_false, and_self, sizeM_eq, isi_int h, isi_bool h]
  cases v <;> simp only [isIntP, isBoolP, belowB, ev_bind, ev_nox, ev_seq, ev_set, ev_setOwn, ev_share, ev_drop, ev_ret, ev_retOwn, ev_skip, ev_brk, ev_cnt, ev_ifS, ev_frzS, ev_append, ev_setIx, ev_for, ev_lc, ev_seqOf, ev_range, ev_var, ev_c, ev_op, ev_un, ev_args, ev_nil, ev_cons, ev_frz, ev_b, ev_and, ev_or, ev_not, ev_andV, ev_orV, ev_notV, ev_if, ev_chain, ev_isi, ev_ixOwn, ev_lenOwn, ev_call, ev_callK, ev_sl, ev_part, ev_true, ev_nm, ev_toB, frz, frzAt, toSeq_tup, toSeq_pt, toSeq_lst, toSeq_cl, toRet, mWipe, kbG, Mir.gTup, Mir.gLst, List.getElem?_cons_zero, List.getElem?_cons_succ, List.set_cons_zero, List.set_cons_succ, List.length_cons, List.length_nil, List.append_nil, List.nil_append, List.cons_append, Nat.reduceAdd, Nat.reduceLeDiff, Nat.reduceEqDiff, Nat.zero_add, reduceIte, Bool.false_eq_true, Bool.not_true, Bool.not_false, and_self, sizeM_eq, gAddA, gAdd, gMulA, gMul, Mir.gSub, gFdiv, gMod, gLt, gLe, gGt, geA_int, gLen, gInt, gAbs, gNeg]
  · rename_i i
    by_cases h0 : (0 : Int) ≤ i
    · simp only [h0, decide_true, ev_bind, ev_nox, ev_seq, ev_set, ev_setOwn, ev_share, ev_drop, ev_ret, ev_retOwn, ev_skip, ev_brk, ev_cnt, ev_ifS, ev_frzS, ev_append, ev_setIx, ev_for, ev_lc, ev_seqOf, ev_range, ev_var, ev_c, ev_op, ev_un, ev_args, ev_nil, ev_cons, ev_frz, ev_b, ev_and, ev_or, ev_not, ev_andV, ev_orV, ev_notV, ev_if, ev_chain, ev_isi, ev_ixOwn, ev_lenOwn, ev_call, ev_callK, ev_sl, ev_part, ev_true, ev_nm, ev_toB, frz, frzAt, toSeq_tup, toSeq_pt, toSeq_lst, toSeq_cl, toRet, mWipe, kbG, Mir.gTup, Mir.gLst, List.getElem?_cons_zero, List.getElem?_cons_succ, List.set_cons_zero, List.set_cons_succ, List.length_cons, List.length_nil, List.append_nil, List.nil_append, List.cons_append, Nat.reduceAdd, Nat.reduceLeDiff, Nat.reduceEqDiff, Nat.zero_add, reduceIte, Bool.false_eq_true, Bool.not_true, Bool.not_false, and_self, sizeM_eq, Bool.true_and]
    · simp only [h0, decide_false, ev_bind, ev_nox, ev_seq, ev_set, ev_setOwn, ev_share, ev_drop, ev_ret, ev_retOwn, ev_skip, ev_brk, ev_cnt, ev_ifS, ev_frzS, ev_append, ev_setIx, ev_for, ev_lc, ev_seqOf, ev_range, ev_var, ev_c, ev_op, ev_un, ev_args, ev_nil, ev_cons, ev_frz, ev_b, ev_and, ev_or, ev_not, ev_andV, ev_orV, ev_notV, ev_if, ev_chain, ev_isi, ev_ixOwn, ev_lenOwn, ev_call, ev_callK, ev_sl, ev_part, ev_true, ev_nm, ev_toB, frz, frzAt, toSeq_tup, toSeq_pt, toSeq_lst, toSeq_cl, toRet, mWipe, kbG, Mir.gTup, Mir.gLst, List.getElem?_cons_zero, List.getElem?_cons_succ, List.set_cons_zero, List.set_cons_succ, List.length_cons, List.length_nil, List.append_nil, List.nil_append, List.cons_append, Nat.reduceAdd, Nat.reduceLeDiff, Nat.reduceEqDiff, Nat.zero_add, reduceIte, Bool.false_eq_true, Bool.not_true, Bool.not_false, and_self, sizeM_eq, Bool.false_and]
theorem bel2 (v : PV) : belowB 2 v = isBitP v := by
  cases v <;> try rfl
  rename_i i
  show (decide (0 ≤ i) && decide (i < 2)) = (decide (0 ≤ i) && decide (i ≤ 1))
  rw [Bool.eq_iff_iff]
  simp only [Bool.and_eq_true, decide_eq_true_eq]
  omega
def rowB (n : Nat) : PV → Bool
  | .tup xs => decide (xs.length = n) && xs.all isBitP
  | _ => false
theorem irow_ok {v : PV} (h : Clean v) (n : Nat) (S : Store) : mDef 3 B_isrow [v, .int n] S = .ok (.bl (rowB n v)) S := by
  show (B_isrow [.val v, .val (.int n), .none] S).bind toRet = _
  unfold B_isrow
  cases v with
  | obj k => cases h.no
  | dk ks xs => cases h.no
  | ins c ns xs => cases h.no
  | fn x => cases h.no
  | tup xs =>
    simp only [ev_bind, ev_nox, ev_seq, ev_set, ev_setOwn, ev_share, ev_drop, ev_ret, ev_retOwn, ev_skip, ev_brk, ev_cnt, ev_ifS, ev_frzS, ev_append, ev_setIx, ev_for, ev_lc, ev_seqOf, ev_range, ev_var, ev_c, ev_op, ev_un, ev_args, ev_nil, ev_cons, ev_frz, ev_b, ev_and, ev_or, ev_not, ev_andV, ev_orV, ev_notV, ev_if, ev_chain, ev_isi, ev_ixOwn, ev_lenOwn, ev_call, ev_callK, ev_sl, ev_part, ev_true, ev_nm, ev_toB, frz, frzAt, toSeq_tup, toSeq_pt, toSeq_lst, toSeq_cl, toRet, mWipe, kbG, Mir.gTup, Mir.gLst, List.getElem?_cons_zero, List.getElem?_cons_succ, List.set_cons_zero, List.set_cons_succ, List.length_cons, List.length_nil, List.append_nil, List.nil_append, List.cons_append, Nat.reduceAdd, Nat.reduceLeDiff, Nat.reduceEqDiff, Nat.zero_add, reduceIte, Bool.false_eq_true, Bool.not_true, Bool.not_false, and_self, sizeM_eq, isi_tuple h.no, isTupP, gAddA, gAdd, gMulA, gMul, Mir.gSub, gFdiv, gMod, gLt, gLe, gGt, geA_int, gLen, gInt, gAbs, gNeg, neD_int]
    by_cases hl : xs.length = n
    · have e1 : decide ((xs.length : Int) = n) = true := decide_eq_true (by omega)
      simp only [e1, ev_bind, ev_nox, ev_seq, ev_set, ev_setOwn, ev_share, ev_drop, ev_ret, ev_retOwn, ev_skip, ev_brk, ev_cnt, ev_ifS, ev_frzS, ev_append, ev_setIx, ev_for, ev_lc, ev_seqOf, ev_range, ev_var, ev_c, ev_op, ev_un, ev_args, ev_nil, ev_cons, ev_frz, ev_b, ev_and, ev_or, ev_not, ev_andV, ev_orV, ev_notV, ev_if, ev_chain, ev_isi, ev_ixOwn, ev_lenOwn, ev_call, ev_callK, ev_sl, ev_part, ev_true, ev_nm, ev_toB, frz, frzAt, toSeq_tup, toSeq_pt, toSeq_lst, toSeq_cl, toRet, mWipe, kbG, Mir.gTup, Mir.gLst, List.getElem?_cons_zero, List.getElem?_cons_succ, List.set_cons_zero, List.set_cons_succ, List.length_cons, List.length_nil, List.append_nil, List.nil_append, List.cons_append, Nat.reduceAdd, Nat.reduceLeDiff, Nat.reduceEqDiff, Nat.zero_add, reduceIte, Bool.false_eq_true, Bool.not_true, Bool.not_false, and_self, sizeM_eq]
      have cl := h.tup
      have lp := for_ret (g := gNm 2) (b := mIfS (mNot (mB (mCall 2 (mDef 2 B_below) [] (mCons (mVar 2) (mCons (mC (.int 2)) mNil))))) (mRet (mC (.bl false))) mSkip) (xs := xs)
        (fun pre ρ S' => S' = S ∧ (∃ s, ρ = [.val (.tup xs), .val (.int n), s]) ∧ pre.all isBitP = true) (fun v S' => v = .bl false ∧ S' = S ∧ xs.all isBitP = false) (by
          rintro pre x post ρ S' ex ⟨rfl, ⟨s, rfl⟩, hp⟩
          have hx : NoObj x := (cl x (by rw [ex]; simp)).no
          cases hb : isBitP x with
          | true =>
            refine .inl ⟨_, S', .inl ?_, rfl, ⟨.val x, rfl⟩, by rw [List.all_append, hp, List.all_cons, hb]; rfl⟩
            simp only [ev_bind, ev_nox, ev_seq, ev_set, ev_setOwn, ev_share, ev_drop, ev_ret, ev_retOwn, ev_skip, ev_brk, ev_cnt, ev_ifS, ev_frzS, ev_append, ev_setIx, ev_for, ev_lc, ev_seqOf, ev_range, ev_var, ev_c, ev_op, ev_un, ev_args, ev_nil, ev_cons, ev_frz, ev_b, ev_and, ev_or, ev_not, ev_andV, ev_orV, ev_notV, ev_if, ev_chain, ev_isi, ev_ixOwn, ev_lenOwn, ev_call, ev_callK, ev_sl, ev_part, ev_true, ev_nm, ev_toB, frz, frzAt, toSeq_tup, toSeq_pt, toSeq_lst, toSeq_cl, toRet, mWipe, kbG, Mir.gTup, Mir.gLst, List.getElem?_cons_zero, List.getElem?_cons_succ, List.set_cons_zero, List.set_cons_succ, List.length_cons, List.length_nil, List.append_nil, List.nil_append, List.cons_append, Nat.reduceAdd, Nat.reduceLeDiff, Nat.reduceEqDiff, Nat.zero_add, reduceIte, Bool.false_eq_true, Bool.not_true, Bool.not_false, and_self, sizeM_eq, bel_ok hx, bel2, hb]
          | false =>
            refine .inr ⟨_, S', ?_, rfl, rfl, by rw [ex, List.all_append, hp, List.all_cons, hb]; rfl⟩
            simp only [ev_bind, ev_nox, ev_seq, ev_set, ev_setOwn, ev_share, ev_drop, ev_ret, ev_retOwn, ev_skip, ev_brk, ev_cnt, ev_ifS, ev_frzS, ev_append, ev_setIx, ev_for, ev_lc, ev_seqOf, ev_range, ev_var, ev_c, ev_op, ev_un, ev_args, ev_nil, ev_cons, ev_frz, ev_b, ev_and, ev_or, ev_not, ev_andV, ev_orV, ev_notV, ev_if, ev_chain, ev_isi, ev_ixOwn, ev_lenOwn, ev_call, ev_callK, ev_sl, ev_part, ev_true, ev_nm, ev_toB, frz, frzAt, toSeq_tup, toSeq_pt, toSeq_lst, toSeq_cl, toRet, mWipe, kbG, Mir.gTup, Mir.gLst, List.getElem?_cons_zero, List.getElem?_cons_succ, List.set_cons_zero, List.set_cons_succ, List.length_cons, List.length_nil, List.append_nil, List.nil_append, List.cons_append, Nat.reduceAdd, Nat.reduceLeDiff, Nat.reduceEqDiff, Nat.zero_add, reduceIte, Bool.false_eq_true, Bool.not_true, Bool.not_false, and_self, sizeM_eq, bel_ok hx, bel2, hb]) [.val (.tup xs), .val (.int n), .none] S ⟨rfl, ⟨_, rfl⟩, rfl⟩
      rcases lp with ⟨ρ', S', e, rfl, ⟨s, rfl⟩, ha⟩ | ⟨v, S', e, rfl, rfl, ha⟩
      · simp only [e, ev_bind, ev_nox, ev_seq, ev_set, ev_setOwn, ev_share, ev_drop, ev_ret, ev_retOwn, ev_skip, ev_brk, ev_cnt, ev_ifS, ev_frzS, ev_append, ev_setIx, ev_for, ev_lc, ev_seqOf, ev_range, ev_var, ev_c, ev_op, ev_un, ev_args, ev_nil, ev_cons, ev_frz, ev_b, ev_and, ev_or, ev_not, ev_andV, ev_orV, ev_notV, ev_if, ev_chain, ev_isi, ev_ixOwn, ev_lenOwn, ev_call, ev_callK, ev_sl, ev_part, ev_true, ev_nm, ev_toB, frz, frzAt, toSeq_tup, toSeq_pt, toSeq_lst, toSeq_cl, toRet, mWipe, kbG, Mir.gTup, Mir.gLst, List.getElem?_cons_zero, List.getElem?_cons_succ, List.set_cons_zero, List.set_cons_succ, List.length_cons, List.length_nil, List.append_nil, List.nil_append, List.cons_append, Nat.reduceAdd, Nat.reduceLeDiff, Nat.reduceEqDiff, Nat.zero_add, reduceIte, Bool.false_eq_true, Bool.not_true, Bool.not_false, and_self, sizeM_eq, rowB, hl, decide_true, ha, Bool.true_and]
      · simp only [e, ev_bind, ev_nox, ev_seq, ev_set, ev_setOwn, ev_share, ev_drop, ev_ret, ev_retOwn, ev_skip, ev_brk, ev_cnt, ev_ifS, ev_frzS, ev_append, ev_setIx, ev_for, ev_lc, ev_seqOf, ev_range, ev_var, ev_c, ev_op, ev_un, ev_args, ev_nil, ev_cons, ev_frz, ev_b, ev_and, ev_or, ev_not, ev_andV, ev_orV, ev_notV, ev_if, ev_chain, ev_isi, ev_ixOwn, ev_lenOwn, ev_call, ev_callK, ev_sl, ev_part, ev_true, ev_nm, ev_toB, frz, frzAt, toSeq_tup, toSeq_pt, toSeq_lst, toSeq_cl, toRet, mWipe, kbG, Mir.gTup, Mir.gLst, List.getElem?_cons_zero, List.getElem?_cons_succ, List.set_cons_zero, List.set_cons_succ, List.length_cons, List.length_nil, List.append_nil, List.nil_append, List.cons_append, Nat.reduceAdd, Nat.reduceLeDiff, Nat.reduceEqDiff, Nat.zero_add, reduceIte, Bool.false_eq_true, Bool.not_true, Bool.not_false, and_self, sizeM_eq, rowB, hl, decide_true, ha, Bool.true_and]
    · have e1 : decide ((xs.length : Int) = n) = false := decide_eq_false (by omega)
      simp only [e1, ev_bind, ev_nox, ev_seq, ev_set, ev_setOwn, ev_share, ev_drop, ev_ret, ev_retOwn, ev_skip, ev_brk, ev_cnt, ev_ifS, ev_frzS, ev_append, ev_setIx, ev_for, ev_lc, ev_seqOf, ev_range, ev_var, ev_c, ev_op, ev_un, ev_args, ev_nil, ev_cons, ev_frz, ev_b, ev_and, ev_or, ev_not, ev_andV, ev_orV, ev_notV, ev_if, ev_chain, ev_isi, ev_ixOwn, ev_lenOwn, ev_call, ev_callK, ev_sl, ev_part, ev_true, ev_nm, ev_toB, frz, frzAt, toSeq_tup, toSeq_pt, toSeq_lst, toSeq_cl, toRet, mWipe, kbG, Mir.gTup, Mir.gLst, List.getElem?_cons_zero, List.getElem?_cons_succ, List.set_cons_zero, List.set_cons_succ, List.length_cons, List.length_nil, List.append_nil, List.nil_append, List.cons_append, Nat.reduceAdd, Nat.reduceLeDiff, Nat.reduceEqDiff, Nat.zero_add, reduceIte, Bool.false_eq_true, Bool.not_true, Bool.not_false, and_self, sizeM_eq, rowB, hl, decide_false, Bool.false_and]
  | pt xs => exact h.npt.elim
  | non => simp only [ev_bind, ev_nox, ev_seq, ev_set, ev_setOwn, ev_share, ev_drop, ev_ret, ev_retOwn, ev_skip, ev_brk, ev_cnt, ev_ifS, ev_frzS, ev_append, ev_setIx, ev_for, ev_lc, ev_seqOf, ev_range, ev_var, ev_c, ev_op, ev_un, ev_args, ev_nil, ev_cons, ev_frz, ev_b, ev_and, ev_or, ev_not, ev_andV, ev_orV, ev_notV, ev_if, ev_chain, ev_isi, ev_ixOwn, ev_lenOwn, ev_call, ev_callK, ev_sl, ev_part, ev_true, ev_nm, ev_toB, frz, frzAt, toSeq_tup, toSeq_pt, toSeq_lst, toSeq_cl, toRet, mWipe, kbG, Mir.gTup, Mir.gLst, List.getElem?_cons_zero, List.getElem?_cons_succ, List.set_cons_zero, List.set_cons_succ, List.length_cons, List.length_nil, List.append_nil, List.nil_append, List.cons_append, Nat.reduceAdd, Nat.reduceLeDiff, Nat.reduceEqDiff, Nat.zero_add, reduceIte, Bool.false_eq_true, Bool.not_true, Bool.not_false, and_self, sizeM_eq, isi_tuple h.no, isTupP]; rfl
  | bl _ => simp only [ev_bind, ev_nox, ev_seq, ev_set, ev_setOwn, ev_share, ev_drop, ev_ret, ev_retOwn, ev_skip, ev_brk, ev_cnt, ev_ifS, ev_frzS, ev_append, ev_setIx, ev_for, ev_lc, ev_seqOf, ev_range, ev_var, ev_c, ev_op, ev_un, ev_args, ev_nil, ev_cons, ev_frz, ev_b, ev_and, ev_or, ev_not, ev_andV, ev_orV, ev_notV, ev_if, ev_chain, ev_isi, ev_ixOwn, ev_lenOwn, ev_call, ev_callK, ev_sl, ev_part, ev_true, ev_nm, ev_toB, frz, frzAt, toSeq_tup, toSeq_pt, toSeq_lst, toSeq_cl, toRet, mWipe, kbG, Mir.gTup, Mir.gLst, List.getElem?_cons_zero, List.getElem?_cons_succ, List.set_cons_zero, List.set_cons_succ, List.length_cons, List.length_nil, List.append_nil, List.nil_append, List.cons_append, Nat.reduceAdd, Nat.reduceLeDiff, Nat.reduceEqDiff, Nat.zero_add, reduceIte, Bool.false_eq_true, Bool.not_true, Bool.not_false, and_self, sizeM_eq, isi_tuple h.no, isTupP]; rfl
  | int _ => simp only [ev_bind, ev_nox, ev_seq, ev_set, ev_setOwn, ev_share, ev_drop, ev_ret, ev_retOwn, ev_skip, ev_brk, ev_cnt, ev_ifS, ev_frzS, ev_append, ev_setIx, ev_for, ev_lc, ev_seqOf, ev_range, ev_var, ev_c, ev_op, ev_un, ev_args, ev_nil, ev_cons, ev_frz, ev_b, ev_and, ev_or, ev_not, ev_andV, ev_orV, ev_notV, ev_if, ev_chain, ev_isi, ev_ixOwn, ev_lenOwn, ev_call, ev_callK, ev_sl, ev_part, ev_true, ev_nm, ev_toB, frz, frzAt, toSeq_tup, toSeq_pt, toSeq_lst, toSeq_cl, toRet, mWipe, kbG, Mir.gTup, Mir.gLst, List.getElem?_cons_zero, List.getElem?_cons_succ, List.set_cons_zero, List.set_cons_succ, List.length_cons, List.length_nil, List.append_nil, List.nil_append, List.cons_append, Nat.reduceAdd, Nat.reduceLeDiff, Nat.reduceEqDiff, Nat.zero_add, reduceIte, Bool.false_eq_true, Bool.not_true, Bool.not_false, and_self, sizeM_eq, isi_tuple h.no, isTupP]; rfl
  | str _ => simp only [ev_bind, ev_nox, ev_seq, ev_set, ev_setOwn, ev_share, ev_drop, ev_ret, ev_retOwn, ev_skip, ev_brk, ev_cnt, ev_ifS, ev_frzS, ev_append, ev_setIx, ev_for, ev_lc, ev_seqOf, ev_range, ev_var, ev_c, ev_op, ev_un, ev_args, ev_nil, ev_cons, ev_frz, ev_b, ev_and, ev_or, ev_not, ev_andV, ev_orV, ev_notV, ev_if, ev_chain, ev_isi, ev_ixOwn, ev_lenOwn, ev_call, ev_callK, ev_sl, ev_part, ev_true, ev_nm, ev_toB, frz, frzAt, toSeq_tup, toSeq_pt, toSeq_lst, toSeq_cl, toRet, mWipe, kbG, Mir.gTup, Mir.gLst, List.getElem?_cons_zero, List.getElem?_cons_succ, List.set_cons_zero, List.set_cons_succ, List.length_cons, List.length_nil, List.append_nil, List.nil_append, List.cons_append, Nat.reduceAdd, Nat.reduceLeDiff, Nat.reduceEqDiff, Nat.zero_add, reduceIte, Bool.false_eq_true, Bool.not_true, Bool.not_false, and_self, sizeM_eq, isi_tuple h.no, isTupP]; rfl
  | lst _ => simp only [ev_bind, ev_nox, ev_seq, ev_set, ev_setOwn, ev_share, ev_drop, ev_ret, ev_retOwn, ev_skip, ev_brk, ev_cnt, ev_ifS, ev_frzS, ev_append, ev_setIx, ev_for, ev_lc, ev_seqOf, ev_range, ev_var, ev_c, ev_op, ev_un, ev_args, ev_nil, ev_cons, ev_frz, ev_b, ev_and, ev_or, ev_not, ev_andV, ev_orV, ev_notV, ev_if, ev_chain, ev_isi, ev_ixOwn, ev_lenOwn, ev_call, ev_callK, ev_sl, ev_part, ev_true, ev_nm, ev_toB, frz, frzAt, toSeq_tup, toSeq_pt, toSeq_lst, toSeq_cl, toRet, mWipe, kbG, Mir.gTup, Mir.gLst, List.getElem?_cons_zero, List.getElem?_cons_succ, List.set_cons_zero, List.set_cons_succ, List.length_cons, List.length_nil, List.append_nil, List.nil_append, List.cons_append, Nat.reduceAdd, Nat.reduceLeDiff, Nat.reduceEqDiff, Nat.zero_add, reduceIte, Bool.false_eq_true, Bool.not_true, Bool.not_false, and_self, sizeM_eq, isi_tuple h.no, isTupP]; rfl
  | cl _ => simp only [ev_bind, ev_nox, ev_seq, ev_set, ev_setOwn, ev_share, ev_drop, ev_ret, ev_retOwn, ev_skip, ev_brk, ev_cnt, ev_ifS, ev_frzS, ev_append, ev_setIx, ev_for, ev_lc, ev_seqOf, ev_range, ev_var, ev_c, ev_op, ev_un, ev_args, ev_nil, ev_cons, ev_frz, ev_b, ev_and, ev_or, ev_not, ev_andV, ev_orV, ev_notV, ev_if, ev_chain, ev_isi, ev_ixOwn, ev_lenOwn, ev_call, ev_callK, ev_sl, ev_part, ev_true, ev_nm, ev_toB, frz, frzAt, toSeq_tup, toSeq_pt, toSeq_lst, toSeq_cl, toRet, mWipe, kbG, Mir.gTup, Mir.gLst, List.getElem?_cons_zero, List.getElem?_cons_succ, List.set_cons_zero, List.set_cons_succ, List.length_cons, List.length_nil, List.append_nil, List.nil_append, List.cons_append, Nat.reduceAdd, Nat.reduceLeDiff, Nat.reduceEqDiff, Nat.zero_add, reduceIte, Bool.false_eq_true, Bool.not_true, Bool.not_false, and_self, sizeM_eq, isi_tuple h.no, isTupP]; rfl
theorem rowB_row {r : List Int} (h : Bits r) : rowB r.length (rowP r) = true := by
  unfold rowB rowP
  simp only [List.length_map, decide_true, Bool.true_and, List.all_eq_true]
  intro x hx
  obtain ⟨b, hb, rfl⟩ := List.mem_map.mp hx
  rcases h b hb with rfl | rfl <;> rfl
/-- these rows, as a list or tuple -/
inductive RowsV (rs : List (List Int)) : PV → Prop
  | lst : RowsV rs (.lst (rs.map rowP))
  | tup : RowsV rs (.tup (rs.map rowP))
theorem RowsV.clean {rs v} (h : RowsV rs v) : Clean v := by
  cases h
  · exact clean_lst fun x hx => by obtain ⟨r, _, rfl⟩ := List.mem_map.mp hx; exact clean_row r
  · exact clean_tup fun x hx => by obtain ⟨r, _, rfl⟩ := List.mem_map.mp hx; exact clean_row r
theorem RowsV.seq {rs v} (h : RowsV rs v) (S : Store) : toSeq v S = .ok (rs.map rowP) S := by cases h <;> rfl
/-- rows of n bits -/
def RowsN (n : Nat) (rs : List (List Int)) : Prop := ∀ r ∈ rs, r.length = n ∧ Bits r
theorem arows_ok {rs : List (List Int)} {v : PV} (hv : RowsV rs v) {n : Nat} (hr : RowsN n rs) (h0 : rs ≠ []) (S : Store) : mDef 3 B_arerows [v, .int n] S = .ok (.bl true) S := by
  have li : ∀ S, gLen [v] S = .ok (.int rs.length) S := fun S => by cases hv <;> simp only [gLen, List.length_map]
  have hl : rs.length ≠ 0 := fun q => h0 (List.eq_nil_of_length_eq_zero q)
  have e0 : decide ((rs.length : Int) = 0) = false := decide_eq_false (by omega)
  have it : ∀ S, gIsiT ["list", "tuple"] v S = .ok (.bl true) S := fun S => by
    cases hv <;> rfl
  obtain ⟨ρ', S', e, rfl, s, rfl⟩ := for_inv (g := gNm 2) (b := mIfS (mNot (mB (mCall 2 (mDef 3 B_isrow) [] (mCons (mVar 2) (mCons (mVar 1) mNil))))) (mRet (mC (.bl false))) mSkip) (xs := rs.map rowP)
    (fun pre ρ S' => S' = S ∧ ∃ s, ρ = [.val v, .val (.int n), s]) (by
      rintro pre x post ρ S' ex ⟨rfl, s, rfl⟩
      have hx : x ∈ rs.map rowP := by rw [ex]; simp
      obtain ⟨r, hr1, rfl⟩ := List.mem_map.mp hx
      obtain ⟨rl, rb⟩ := hr r hr1
      have := rowB_row rb
      rw [rl] at this
      refine ⟨_, S', .inl ?_, rfl, .val (rowP r), rfl⟩
      simp only [ev_bind, ev_nox, ev_seq, ev_set, ev_setOwn, ev_share, ev_drop, ev_ret, ev_retOwn, ev_skip, ev_brk, ev_cnt, ev_ifS, ev_frzS, ev_append, ev_setIx, ev_for, ev_lc, ev_seqOf, ev_range, ev_var, ev_c, ev_op, ev_un, ev_args, ev_nil, ev_cons, ev_frz, ev_b, ev_and, ev_or, ev_not, ev_andV, ev_orV, ev_notV, ev_if, ev_chain, ev_isi, ev_ixOwn, ev_lenOwn, ev_call, ev_callK, ev_sl, ev_part, ev_true, ev_nm, ev_toB, frz, frzAt, toSeq_tup, toSeq_pt, toSeq_lst, toSeq_cl, toRet, mWipe, kbG, Mir.gTup, Mir.gLst, List.getElem?_cons_zero, List.getElem?_cons_succ, List.set_cons_zero, List.set_cons_succ, List.length_cons, List.length_nil, List.append_nil, List.nil_append, List.cons_append, Nat.reduceAdd, Nat.reduceLeDiff, Nat.reduceEqDiff, Nat.zero_add, reduceIte, Bool.false_eq_true, Bool.not_true, Bool.not_false, and_self, sizeM_eq, irow_ok (clean_row r), this]) [.val v, .val (.int n), .none] S ⟨rfl, _, rfl⟩
  show (B_arerows [.val v, .val (.int n), .none] S').bind toRet = _
  have ei : ∀ {a : Rho → Store → Res PV} {Ts : List String} {ρ : Rho} {S : Store}, mIsiT Ts a ρ S = (a ρ S).bind fun x S1 => gIsiT Ts x S1 := rfl
  unfold B_arerows
  simp only [ev_bind, ev_nox, ev_seq, ev_set, ev_setOwn, ev_share, ev_drop, ev_ret, ev_retOwn, ev_skip, ev_brk, ev_cnt, ev_ifS, ev_frzS, ev_append, ev_setIx, ev_for, ev_lc, ev_seqOf, ev_range, ev_var, ev_c, ev_op, ev_un, ev_args, ev_nil, ev_cons, ev_frz, ev_b, ev_and, ev_or, ev_not, ev_andV, ev_orV, ev_notV, ev_if, ev_chain, ev_isi, ev_ixOwn, ev_lenOwn, ev_call, ev_callK, ev_sl, ev_part, ev_true, ev_nm, ev_toB, frz, frzAt, toSeq_tup, toSeq_pt, toSeq_lst, toSeq_cl, toRet, mWipe, kbG, Mir.gTup, Mir.gLst, List.getElem?_cons_zero, List.getElem?_cons_succ, List.set_cons_zero, List.set_cons_succ, List.length_cons, List.length_nil, List.append_nil, List.nil_append, List.cons_append, Nat.reduceAdd, Nat.reduceLeDiff, Nat.reduceEqDiff, Nat.zero_add, reduceIte, Bool.false_eq_true, Bool.not_true, Bool.not_false, and_self, sizeM_eq, ei, it, li, eqD_int, e0, hv.seq, e]
def G_rel : List (Rho → Store → Res Unit) := [(mGuard (mOr (mNot (mB (mCall 2 (mDef 2 B_below) [] (mCons (mVar 1) (mCons (mOp gAddA (mC (.int 4)) (mC (.int 1))) mNil))))) (mOr (mB (mOp (gEqD false) (mVar 1) (mC (.int 0)))) (mNot (mB (mCall 2 (mDef 3 B_arerows) [] (mCons (mVar 2) (mCons (mVar 1) mNil))))))) (mRaise "InvalidRelation" ["value"] (mCons (mArgs gTup (mCons (mVar 1) (mCons (mVar 2) mNil))) mNil)))]
def F_rel : List (Rho → Store → Res PV) := [(mVar 1),
  (mArgs gTuple (mCons (mFrz (mSortD 1000000 (mSeqOf (mVar 2)) (gNm 3) mTrue (mVar 3) (mC (.bl true)) [3])) mNil))]
def M_rel : List PV → Store → Res (List PV) := mInit 4 G_rel F_rel
def relV (n : Nat) (rs : List (List Int)) : PV := .ins "Relation" ["size", "rows"] [.int n, .tup (rs.map rowP)]
theorem toRow_row (r : List Int) : toRow (rowP r) = some r := mapM_int r
theorem toRows_rows : ∀ rs : List (List Int), (rs.map rowP).mapM toRow = some rs
  | [] => rfl
  | r :: rs => by
    rw [List.map_cons, List.mapM_cons, toRow_row, toRows_rows rs]
    rfl
theorem rowsB_rows {n : Nat} (hn : 1 ≤ n) {rs : List (List Int)} (hr : RowsN n rs) (hl : rs.length < 64) : rowsB 1000000 rs = true := by
  unfold rowsB
  rw [decide_eq_true hl, Bool.true_and]
  cases rs with
  | nil => rfl
  | cons r l =>
    have r0 := hr r List.mem_cons_self
    simp only [Bool.and_eq_true, decide_eq_true_eq, List.all_eq_true]
    refine ⟨by omega, fun q hq => ⟨by rw [(hr q hq).1, r0.1], fun b hb => ?_⟩⟩
    rcases (hr q hq).2 b hb with rfl | rfl <;> decide
theorem sortV_ok {n : Nat} (hn : 1 ≤ n) {rs : List (List Int)} (hr : RowsN n rs) (hl : rs.length < 64) (S : Store) : sortV 1000000 (rs.map rowP) S = .ok (.lst ((sortR 1000000 (dedupR rs)).map rowP)) S := by
  unfold sortV
  rw [toRows_rows]
  show (if rowsB 1000000 rs = true then _ else _) = _
  rw [if_pos (rowsB_rows hn hr hl)]
  rfl
theorem rel_ok {rs : List (List Int)} {v : PV} (hv : RowsV rs v) {n : Nat} (hn : 1 ≤ n) (hn4 : n ≤ 4) (hr : RowsN n rs) (h0 : rs ≠ []) (hl : rs.length < 64) (S : Store) : M_rel [.int n, v] S = .ok [.int n, .tup ((sortR 1000000 (dedupR rs)).map rowP)] S := by
  have lc : mLcGo (gNm 3) mTrue (mKey (mVar 3) (mC (.bl true))) [.none, .val (.int n), .val v, .none] (rs.map rowP) S = .ok (rs.map rowP) S := lc_mapL rowP rowP fun r _ => by
    refine ⟨_, rfl, rfl, ?_⟩
    simp only [ev_make, ev_fldI, ev_isiC, ev_sortD, ev_key, ev_join, ev_bind, ev_nox, ev_seq, ev_set, ev_setOwn, ev_share, ev_drop, ev_ret, ev_retOwn, ev_skip, ev_brk, ev_cnt, ev_ifS, ev_frzS, ev_append, ev_setIx, ev_for, ev_lc, ev_seqOf, ev_range, ev_var, ev_c, ev_op, ev_un, ev_args, ev_nil, ev_cons, ev_frz, ev_b, ev_and, ev_or, ev_not, ev_andV, ev_orV, ev_notV, ev_if, ev_chain, ev_isi, ev_ixOwn, ev_lenOwn, ev_call, ev_callK, ev_sl, ev_part, ev_true, ev_nm, ev_toB, frz, frzAt, toSeq_tup, toSeq_pt, toSeq_lst, toSeq_cl, toRet, mWipe, kbG, Mir.gTup, Mir.gLst, List.getElem?_cons_zero, List.getElem?_cons_succ, List.set_cons_zero, List.set_cons_succ, List.length_cons, List.length_nil, List.append_nil, List.nil_append, List.cons_append, Nat.reduceAdd, Nat.reduceLeDiff, Nat.reduceEqDiff, Nat.zero_add, reduceIte, Bool.false_eq_true, Bool.not_true, Bool.not_false, and_self, sizeM_eq, toRow_row]
  have b1 : ∀ S, mDef 2 B_below [.int n, .int 5] S = .ok (.bl true) S := fun S => by
    rw [bel_ok (v := .int n) (show NoObj (.int n) from rfl)]
    show Res.ok (PV.bl (decide ((0 : Int) ≤ n) && decide ((n : Int) < 5))) S = _
    rw [decide_eq_true (by omega), decide_eq_true (by omega)]
    rfl
  have e0 : decide ((n : Int) = 0) = false := decide_eq_false (by omega)
  have z : rs.length ≤ 100000 := by omega
  show mBody G_rel F_rel [.none, .val (.int n), .val v, .none] S = _
  unfold G_rel F_rel
  unfold mBody mGuard
  simp only [ev_bind, ev_nox, ev_seq, ev_set, ev_setOwn, ev_share, ev_drop, ev_ret, ev_retOwn, ev_skip, ev_brk, ev_cnt, ev_ifS, ev_frzS, ev_append, ev_setIx, ev_for, ev_lc, ev_seqOf, ev_range, ev_var, ev_c, ev_op, ev_un, ev_args, ev_nil, ev_cons, ev_frz, ev_b, ev_and, ev_or, ev_not, ev_andV, ev_orV, ev_notV, ev_if, ev_chain, ev_isi, ev_ixOwn, ev_lenOwn, ev_call, ev_callK, ev_sl, ev_part, ev_true, ev_nm, ev_toB, frz, frzAt, toSeq_tup, toSeq_pt, toSeq_lst, toSeq_cl, toRet, mWipe, kbG, Mir.gTup, Mir.gLst, List.getElem?_cons_zero, List.getElem?_cons_succ, List.set_cons_zero, List.set_cons_succ, List.length_cons, List.length_nil, List.append_nil, List.nil_append, List.cons_append, Nat.reduceAdd, Nat.reduceLeDiff, Nat.reduceEqDiff, Nat.zero_add, reduceIte, Bool.false_eq_true, Bool.not_true, Bool.not_false, and_self, sizeM_eq, gAddA, gAdd, show (4 : Int) + 1 = 5 from rfl, b1, eqD_int, e0, arows_ok hv hr h0]
  unfold mBody mFields mFields mFields
  simp only [ev_make, ev_fldI, ev_isiC, ev_sortD, ev_key, ev_join, ev_bind, ev_nox, ev_seq, ev_set, ev_setOwn, ev_share, ev_drop, ev_ret, ev_retOwn, ev_skip, ev_brk, ev_cnt, ev_ifS, ev_frzS, ev_append, ev_setIx, ev_for, ev_lc, ev_seqOf, ev_range, ev_var, ev_c, ev_op, ev_un, ev_args, ev_nil, ev_cons, ev_frz, ev_b, ev_and, ev_or, ev_not, ev_andV, ev_orV, ev_notV, ev_if, ev_chain, ev_isi, ev_ixOwn, ev_lenOwn, ev_call, ev_callK, ev_sl, ev_part, ev_true, ev_nm, ev_toB, frz, frzAt, toSeq_tup, toSeq_pt, toSeq_lst, toSeq_cl, toRet, mWipe, kbG, Mir.gTup, Mir.gLst, List.getElem?_cons_zero, List.getElem?_cons_succ, List.set_cons_zero, List.set_cons_succ, List.length_cons, List.length_nil, List.append_nil, List.nil_append, List.cons_append, Nat.reduceAdd, Nat.reduceLeDiff, Nat.reduceEqDiff, Nat.zero_add, reduceIte, Bool.false_eq_true, Bool.not_true, Bool.not_false, and_self, sizeM_eq, hv.seq, List.length_map, z, lc, sortV_ok hn hr hl, gTuple]
end Mir
set_option maxHeartbeats 4000000
namespace Mir
open PySem L2
theorem rngN {n : Nat} (h : n ≤ 100000) (S : Store) : gRange1 [.int n] S = .ok (rng n) S := by
  have : range62 (n : Int) = true := range62_ok (by omega) (by omega)
  unfold gRange1 rng
  simp only [this, if_true, Int.toNat_natCast]
theorem rngN_len (n : Nat) : (rng n).length = n := by unfold rng; simp
section
variable {g : PV → Rho → Store → Res Rho} {t : Rho → Store → Res Bool} {a : Rho → Store → Res PV} {ρ : Rho}
theorem lc_filterL {α : Type} {S : Store} (F G : α → PV) (p : α → Bool) : ∀ {ps : List α}, (∀ x ∈ ps, ∃ ρ1, g (F x) ρ S = .ok ρ1 S ∧ t ρ1 S = .ok (p x) S ∧ (p x = true → a ρ1 S = .ok (G x) S)) → mLcGo g t a ρ (ps.map F) S = .ok ((ps.filter p).map G) S
  | [], _ => rfl
  | x :: ps, h => by
    obtain ⟨ρ1, e1, e2, e3⟩ := h x List.mem_cons_self
    have ih := lc_filterL F G p (ps := ps) fun q hq => h q (List.mem_cons_of_mem _ hq)
    cases hp : p x with
    | true => simp only [List.map_cons, mLcGo, e1, e2, e3 hp, hp, Res.nox, Res.bind, ih, if_pos, List.filter_cons]
    | false => simp only [List.map_cons, mLcGo, e1, e2, hp, Res.nox, Res.bind, ih, List.filter_cons, Bool.false_eq_true, if_false]
end
section
variable {g : PV → Rho → Store → Res Rho} {t : Rho → Store → Res Bool} {a : Rho → Store → Res PV} {ρ : Rho}
end
section
variable {g : PV → Rho → Store → Res Rho} {b : Rho → Store → Res Out}
/-- a loop over the images of a list -/
theorem for_map {α : Type} (F : α → PV) {ps : List α} (Pv : List α → Rho → Store → Prop)
    (h : ∀ pre x post ρ S, ps = pre ++ x :: post → Pv pre ρ S → ∃ ρ' S', ((g (F x) ρ S).bind (fun ρ1 S1 => b ρ1 S1) = .ok (.nx ρ') S' ∨ (g (F x) ρ S).bind (fun ρ1 S1 => b ρ1 S1) = .ok (.ct ρ') S') ∧ Pv (pre ++ [x]) ρ' S') :
    ∀ ρ S, Pv [] ρ S → ∃ ρ' S', mForGo g b (ps.map F) ρ S = .ok (.nx ρ') S' ∧ Pv ps ρ' S' := fun ρ S h0 => by
  obtain ⟨ρ', S', e, l, hl, pre, hp⟩ := for_inv (g := g) (b := b) (xs := ps.map F) (fun pre ρ S => ∃ l : List α, l.length = pre.length ∧ l <+: ps ∧ Pv l ρ S) (by
    rintro pre x post ρ S ex ⟨l, hl, ⟨q, rfl⟩, hp⟩
    rw [List.map_append] at ex
    obtain ⟨e1, e2⟩ := List.append_inj ex (by rw [List.length_map, hl])
    cases q with
    | nil => cases e2
    | cons y q =>
      rw [List.map_cons] at e2
      injection e2 with e2 e3
      obtain ⟨ρ', S', e, hp'⟩ := h l y q ρ S rfl hp
      rw [e2] at e
      exact ⟨ρ', S', e, l ++ [y], by simp [hl], ⟨q, by simp⟩, hp'⟩) ρ S ⟨[], rfl, ⟨ps, rfl⟩, h0⟩
  refine ⟨ρ', S', e, ?_⟩
  obtain ⟨q, hq⟩ := pre
  have : q = [] := by
    have := congrArg List.length hq
    rw [List.length_append, hl, List.length_map] at this
    exact List.eq_nil_of_length_eq_zero (by omega)
  subst this
  rw [List.append_nil] at hq
  rw [← hq]
  exact hp
end
/-- x in a list of ints, as plain membership -/
theorem inD_ints0 (c : Int) (ps : List Int) (S : Store) : gInD false (.int c) (.lst (ps.map PV.int)) S = .ok (.bl (ps.any fun z => decide (z = c))) S := by
  rw [inD_ints]
  have : inB false c ps = ps.any fun z => decide (z = c) := by
    show ((ps.map PyData.int).any fun z => PyData.eqv z (.int c)) = _
    induction ps with
    | nil => rfl
    | cons p ps ih =>
      simp only [List.map_cons, List.any_cons, ih, PyData.eqv]
      rfl
  rw [this]
def Asc (rs : List (List Int)) : Prop := rs.Pairwise fun q r => TS.code 1000000 q < TS.code 1000000 r
theorem rowsE_asc {n : Nat} (h : n ≤ 4) : Asc (rowsE n) := by
  have key : ∀ n ∈ [0, 1, 2, 3, 4], (rowsE n).Pairwise fun q r => decide (TS.code 1000000 q < TS.code 1000000 r) = true := by decide +kernel
  have := key n (by simp only [List.mem_cons, List.not_mem_nil, or_false]; omega)
  exact this.imp fun h => of_decide_eq_true h
theorem asc_sub {rs qs : List (List Int)} (h : Asc qs) (s : rs.Sublist qs) : Asc rs := List.Pairwise.sublist s h
theorem asc_sort {rs : List (List Int)} (h : Asc rs) : sortR 1000000 (dedupR rs) = rs := by rw [dedupR_id h, sortR_id h]
theorem rowsE_few {n : Nat} (h : n ≤ 4) : (rowsE n).length < 64 := by
  have key : ∀ n ∈ [0, 1, 2, 3, 4], (rowsE n).length < 64 := by decide +kernel
  exact key n (by simp only [List.mem_cons, List.not_mem_nil, or_false]; omega)
/-- a relation of rows that stand in order -/
theorem rel_asc {rs : List (List Int)} {v : PV} (hv : RowsV rs v) {n : Nat} (hn : 1 ≤ n) (hn4 : n ≤ 4) (s : rs.Sublist (rowsE n)) (h0 : rs ≠ []) (S : Store) : M_rel [.int n, v] S = .ok [.int n, .tup (rs.map rowP)] S := by
  rw [rel_ok hv hn hn4 (fun r hr => rowsE_mem (s.subset hr)) h0 (Nat.lt_of_le_of_lt s.length_le (rowsE_few hn4)), asc_sort (asc_sub (rowsE_asc hn4) s)]
end Mir
set_option maxHeartbeats 4000000
namespace Mir
open PySem L2
def Bq__law_take : Rho → Store → Res Out :=
  (mSeq (mSet 2 (mOp gIx (mVar 0) (mC (.int 1))))
    (mSeq (mSetIx 0 (mC (.int 1)) (mOp gAddA (mVar 2) (mC (.int 1))))
    (mSeq (mSet 3 (mOp gIx (mVar 0) (mC (.int 0))))
    (mSeq (mIfS (mB (mOp gGeA (mVar 2) (mArgs gLen (mCons (mVar 3) mNil))))
    (mRet (mC (.int 0)))
    mSkip)
    (mRet (mOp gMod (mOp gFdiv (mArgs gInt (mCons (mOp gIx (mVar 3) (mVar 2)) mNil)) (mC (.int 7))) (mVar 1)))))))
def Mq__law_take : List PV → Store → Res PV := mDef 4 Bq__law_take
def Bq__law_every : Rho → Store → Res Out :=
  (mSeq (mSet 1 (mFrz (mArgs gLst (mCons (mArgs gTup mNil) mNil))))
    (mSeq (mFor (mRange gRange1 (mCons (mVar 0) mNil)) (gNm 2)
    (mSeq (mSet 3 (mFrz (mArgs gLst mNil)))
    (mSeq (mFor (mSeqOf (mVar 1)) (gNm 4)
    (mSet 3 (mOp gAddA (mVar 3) (mFrz (mArgs gLst (mCons (mOp gAddA (mVar 4) (mArgs gTup (mCons (mC (.int 0)) mNil))) (mCons (mOp gAddA (mVar 4) (mArgs gTup (mCons (mC (.int 1)) mNil))) mNil)))))))
    (mSet 1 (mVar 3)))))
    (mRet (mVar 1))))
def Mq__law_every : List PV → Store → Res PV := mDef 5 Bq__law_every
end Mir
set_option maxHeartbeats 4000000
namespace Mir
open PySem L2
theorem ix_t {xs : List PV} {k : Int} {S : Store} : gIx (.tup xs) (.int k) S = match atI xs k with
  | some y => .ok y S
  | none => .bad := nrfl rfl
theorem ix_l {xs : List PV} {k : Int} {S : Store} : gIx (.lst xs) (.int k) S = match atI xs k with
  | some y => .ok y S
  | none => .bad := nrfl rfl
theorem ix_row {r : List Int} {k : Nat} (h : k < r.length) (S : Store) : gIx (rowP r) (.int k) S = .ok (.int (r.getD k 0)) S := by
  unfold rowP gIx
  simp only [atI_row h]
theorem mapM_bls : ∀ bs : List Bool, (bs.map PV.bl).mapM toBl = some bs
  | [] => rfl
  | b :: bs => by
    rw [List.map_cons, List.mapM_cons, mapM_bls bs]
    rfl
theorem nat_of {v : Int} {n : Nat} (h0 : 0 ≤ v) (h1 : v < n) : ∃ k : Nat, v = k ∧ k < n := ⟨v.toNat, by omega, by omega⟩
theorem takeq {S R : Store} {many : Int} (h : Hand S R) (hm : 0 < many) : ∃ v S', Mq__law_take [.obj 0, .int many] S = .ok (.int v) S' ∧ Hand S' R ∧ 0 ≤ v ∧ v < many := take_ok h hm
theorem ev_lc2 {it : Rho → Store → Res (List PV)} {g : PV → Rho → Store → Res Rho} {t : Rho → Store → Res Bool} {it1 : Rho → Store → Res (List PV)} {g1 : PV → Rho → Store → Res Rho} {t1 : Rho → Store → Res Bool} {e : Rho → Store → Res PV} {vs vs1 : List Nat} {ρ : Rho} {S : Store} :
    mLc2 it g t it1 g1 t1 e vs vs1 ρ S = (it ρ S).bind fun xs S1 => (mLc2Go xs.length g t it1 g1 t1 e vs1 (mWipe ρ vs) xs S1).bind fun ys S2 => .ok (.lst ys) S2 := nrfl rfl
/-- m rows of n values -/
def Tu (n m : Nat) (t : List (List Int)) : Prop := t.length = m ∧ RowsN n t
def TabM (m : Nat) (tb : List Int) : Prop := tb.length = 2 ^ m ∧ Bits tb
theorem madeN_ok {m : Nat} {tb : List Int} (hb : Bits tb) (t : List (List Int)) (n : Nat) : (madeN tb t n).length = n ∧ Bits (madeN tb t n) := by
  unfold madeN
  refine ⟨by simp, fun b hb' => ?_⟩
  obtain ⟨j, _, rfl⟩ := List.mem_map.mp hb'
  exact bit_at hb _
def tuplesN (rs : List (List Int)) : Nat → List (List (List Int))
  | 0 => [[]]
  | m + 1 => (tuplesN rs m).flatMap fun t => rs.map fun r => t ++ [r]
end Mir
set_option maxHeartbeats 4000000
namespace Mir
open PySem L2
theorem toDs_rowsP : ∀ ps : List (List Int), toDs (ps.map rowP) = some (ps.map fun p => PyData.tuple (p.map PyData.int))
  | [] => rfl
  | p :: ps => by
    have ih := toDs_rowsP ps
    simp only [List.map_cons, toDs, toD_row, ih]
theorem lay_rowsP : ∀ ps : List (List Int), PyData.canLayAll0 (ps.map fun p => PyData.tuple (p.map PyData.int)) = true
  | [] => rfl
  | p :: ps => by simp only [List.map_cons, PyData.canLayAll0, PyData.canLay0, lay_ints, lay_rowsP ps, Bool.and_self]
theorem depth_rowsP : ∀ ps : List (List Int), PyData.depthAll (ps.map fun p => PyData.tuple (p.map PyData.int)) ≤ 1
  | [] => by simp [PyData.depthAll]
  | p :: ps => by
    have := depth_rowsP ps
    simp only [List.map_cons, PyData.depthAll, PyData.depth, depth_ints]
    omega
theorem shaped_rowsT (ps : List (List Int)) : SeqAt.shaped (.tuple (ps.map fun p => PyData.tuple (p.map PyData.int))) = true := by
  refine Bool.and_eq_true_iff.mpr ⟨lay_rowsP ps, decide_eq_true ?_⟩
  have := depth_rowsP ps
  simp only [PyData.depth]
  omega
theorem shaped_rowsL (ps : List (List Int)) : SeqAt.shaped (.list (ps.map fun p => PyData.tuple (p.map PyData.int))) = true := by
  refine Bool.and_eq_true_iff.mpr ⟨lay_rowsP ps, decide_eq_true ?_⟩
  have := depth_rowsP ps
  simp only [PyData.depth]
  omega
theorem any_rows (r : List Int) : ∀ ps : List (List Int), ((ps.map fun p => PyData.tuple (p.map PyData.int)).any fun z => PyData.eqv z (.tuple (r.map PyData.int))) = decide (r ∈ ps)
  | [] => rfl
  | p :: ps => by
    rw [List.map_cons, List.any_cons, any_rows r ps]
    show (PyData.eqvAll (p.map PyData.int) (r.map PyData.int) || _) = _
    rw [eqvAll_ints, Bool.eq_iff_iff]
    simp only [Bool.or_eq_true, decide_eq_true_eq, List.mem_cons]
    exact ⟨fun h => h.elim (fun e => .inl e.symm) .inr, fun h => h.elim (fun e => .inl e.symm) .inr⟩
theorem in_rows {v : PV} {rs : List (List Int)} (hv : RowsV rs v) (neg : Bool) (r : List Int) (S : Store) : gInD neg (rowP r) v S = .ok (.bl (if neg then !decide (r ∈ rs) else decide (r ∈ rs))) S := by
  unfold gInD
  cases hv
  · simp only [toD_row, toD, toDs_rowsP, Option.map_some, shaped_row, shaped_rowsL, Bool.and_self, if_true, any_rows]
  · simp only [toD_row, toD, toDs_rowsP, Option.map_some, shaped_row, shaped_rowsT, Bool.and_self, if_true, any_rows]
section
variable {g : PV → Rho → Store → Res Rho} {b : Rho → Store → Res Out}
end
/-- the first tuple of rows that is not kept -/
def brk (rs : List (List Int)) (tb : List Int) (n m : Nat) : Option (List (List Int)) := (tuplesN rs m).find? fun t => !decide (madeN tb t n ∈ rs)
/-- what a relation is made of -/
structure RlOk (n : Nat) (rs : List (List Int)) : Prop where
  n1 : 1 ≤ n
  n4 : n ≤ 4
  rows : RowsN n rs
  ne : rs ≠ []
  asc : Asc rs
  few : rs.length ≤ 16
theorem ev_indexT {a : Rho → Store → Res PV} {as : Rho → Store → Res (List PV)} {ρ : Rho} {S : Store} : mIndexT a as ρ S = (a ρ S).bind fun x S1 => match x with
  | .tup xs => (as ρ S1).bind fun ys S2 => gIndexT xs ys S2
  | _ => .bad := nrfl rfl
/-- a relation as the law has it -/
def plainV (n : Nat) (rs : List (List Int)) : PV := .tup [.int n, .tup (rs.map rowP)]
end Mir
set_option maxHeartbeats 4000000
namespace Mir
open PySem L2
abbrev Rl := Nat × List (List Int)
def relP (p : Rl) : PV := relV p.1 p.2
def plP (p : Rl) : PV := plainV p.1 p.2
def bookV (rels : List Rl) : PV := .ins "Book" ["relations", "plain"] [.tup (rels.map relP), .tup (rels.map plP)]
structure BkOk (rels : List Rl) : Prop where
  all : ∀ p ∈ rels, RlOk p.1 p.2
  ne : 1 ≤ rels.length
  six : rels.length ≤ 6
end Mir
set_option maxHeartbeats 4000000
namespace Mir
open PySem L2
section
variable {g : PV → Rho → Store → Res Rho} {b : Rho → Store → Res Out}
end
theorem nodup_len {α : Type} [DecidableEq α] : ∀ (l D : List α), l.Nodup → (∀ x ∈ l, x ∈ D) → l.length ≤ D.length
  | [], _, _, _ => Nat.zero_le _
  | x :: l, D, hn, hs => by
    obtain ⟨h1, h2⟩ := List.nodup_cons.mp hn
    have hx : x ∈ D := hs x List.mem_cons_self
    have ih := nodup_len l (D.erase x) h2 fun y hy => (List.mem_erase_of_ne (show y ≠ x from fun e => h1 (by rw [← e]; exact hy))).2 (hs y (List.mem_cons_of_mem _ hy))
    have e := List.length_erase_of_mem hx
    have hp : 0 < D.length := List.length_pos_of_mem hx
    rw [List.length_cons]
    omega
theorem mem_rowsE : ∀ {n : Nat} {r : List Int}, r.length = n → Bits r → r ∈ rowsE n
  | 0, r, h, _ => by
    rw [List.length_eq_zero_iff.mp h]
    exact List.mem_singleton.mpr rfl
  | n + 1, r, h, hb => by
    have hne : r ≠ [] := fun e => by rw [e] at h; cases h
    have e := List.dropLast_concat_getLast hne
    have ih := mem_rowsE (n := n) (r := r.dropLast) (by rw [List.length_dropLast, h]; rfl) fun b hb' => hb b ((List.dropLast_sublist r).subset hb')
    show r ∈ (rowsE n).flatMap fun r => [r ++ [0], r ++ [1]]
    refine List.mem_flatMap.mpr ⟨r.dropLast, ih, ?_⟩
    have hl := hb _ (List.getLast_mem hne)
    rw [← e]
    rcases hl with hl | hl <;> rw [hl] <;> simp
/-- distinct rows of n bits -/
structure Some_ (n : Nat) (L : List (List Int)) : Prop where
  rows : RowsN n L
  nd : L.Nodup
theorem Some_.few {n : Nat} (h4 : n ≤ 4) {L : List (List Int)} (h : Some_ n L) : L.length ≤ 16 := by
  have h1 := nodup_len L (rowsE n) h.nd fun r hr => mem_rowsE (h.rows r hr).1 (h.rows r hr).2
  have h2 := rowsE_len n
  have h3 : 2 ^ n ≤ 2 ^ 4 := Nat.pow_le_pow_right (by decide) h4
  omega
theorem RlOk.some {n : Nat} {rs : List (List Int)} (h : RlOk n rs) : Some_ n rs := ⟨h.rows, List.Pairwise.imp (fun {a b} h e => by rw [e] at h; exact Int.lt_irrefl _ h) h.asc⟩
end Mir
set_option maxHeartbeats 4000000
namespace Mir
open PySem L2
end Mir
set_option maxHeartbeats 4000000
namespace Mir
open PySem L2
end Mir
set_option maxHeartbeats 4000000
namespace Mir
open PySem L2
noncomputable section
end
end Mir
set_option maxHeartbeats 4000000
namespace Mir
open PySem L2
def Bd (x : PV) (w k : Nat) : Prop := ∃ d, toD x = some d ∧ PyData.showable d = true ∧ d.leavesShort 8 = true ∧ d.bulk ≤ w ∧ d.depth ≤ k
theorem Bd.mono {x : PV} {w k w' k' : Nat} (h : Bd x w k) (h1 : w ≤ w') (h2 : k ≤ k') : Bd x w' k' := by
  obtain ⟨d, a, b, c, e, f⟩ := h
  exact ⟨d, a, b, c, Nat.le_trans e h1, Nat.le_trans f h2⟩
theorem Bd.text {x : PV} {w k : Nat} (h : Bd x w k) (hw : w ≤ 9990) (hk : k ≤ 60) : ∃ s : Str, ∀ S, gRepr [x] S = .ok (.str s) S := by
  obtain ⟨d, a, b, c, e, f⟩ := h
  refine ⟨d.shown, fun S => ?_⟩
  have hl := PyData.shown_le_bulk 8 (by omega) d c
  have ok : reprOk d = true := by
    unfold reprOk
    simp only [b, Bool.true_and, Bool.and_eq_true, decide_eq_true_eq]
    exact ⟨by rw [sizeM_eq]; omega, Nat.le_trans f hk⟩
  show (match toD x with | some d => (if reprOk d = true then Res.ok (PV.str d.shown) S else .bad) | none => .bad) = Res.ok (PV.str d.shown) S
  rw [a]
  simp only [ok, if_pos]
theorem ev_gs {g : Rho → Store → Res Out} {gs : List (Rho → Store → Res Out)} {ρ : Rho} {S : Store} : mGs (g :: gs) ρ S = (g ρ S).bind fun o S1 => match o with
    | .nx ρ1 => mGs gs ρ1 S1
    | _ => .bad := rfl
theorem ev_gs0 {ρ : Rho} {S : Store} : mGs [] ρ S = .ok ρ S := rfl
abbrev Tie := Nat × List Int
structure TieOk (rels : List Rl) (cc : Nat) (t : Tie) : Prop where
  rel : ∃ p, rels[t.1]? = some p ∧ t.2.length = p.1
  cells : ∀ c ∈ t.2, 0 ≤ c ∧ c < (cc : Int)
def puzNs : List Str := ["book", "cell_count", "ties"]
end Mir
set_option maxHeartbeats 4000000
namespace Mir
open PySem L2
end Mir
set_option maxHeartbeats 4000000
namespace Mir
open PySem L2
theorem ev_seqB {f g : Rho → Store → Res Out} {ρ : Rho} {S : Store} : mSeqB f g ρ S = (f ρ S).bind fun o S1 => match o with
  | .nx ρ' => g ρ' S1
  | _ => .bad := rfl
theorem ev_callO {n : Nat} {m : List PV → Store → Res SO} {fa : Rho → Store → Res (List PV)} {ρ : Rho} {S : Store} : mCallO n m fa ρ S = (fa ρ S).bind fun xs S1 => if xs.length = n then m xs S1 else .bad := rfl
def Ly (x : PV) (k : Nat) : Prop := ∃ d, toD x = some d ∧ PyData.canLay0 d = true ∧ d.depth ≤ k
theorem Ly.mono {x : PV} {k k' : Nat} (h : Ly x k) (hk : k ≤ k') : Ly x k' := by
  obtain ⟨d, a, b, c⟩ := h
  exact ⟨d, a, b, Nat.le_trans c hk⟩
end Mir
set_option maxHeartbeats 4000000
namespace Mir
open PySem L2
section
variable {g : PV → Rho → Store → Res Rho} {t : Rho → Store → Res Bool} {a e f fd fk fx fo fe : Rho → Store → Res PV} {b : Rho → Store → Res Out} {vs : List Nat} {ρ : Rho} {S S1 : Store} {n : Nat} {xs ys : List PV} {ks : List Key}
theorem ev_lcXo (h1 : f ρ S = .ok (.obj n) S1) (h2 : S1[n]? = some (.lst xs)) (h3 : xs.length ≤ 100000) : mLcX f g t e vs ρ S = (mLcOGo n xs g t e (mWipe ρ vs) xs S1).bind fun ys S2 => .ok (.lst ys) S2 := by
  have h3 : xs.length ≤ sizeM := h3
  unfold mLcX
  rw [h1]
  simp only [lookL_obj, h2, h3, if_true]
theorem lcO_map {α : Type} {all : List PV} (F G : α → PV) (hS : S[n]? = some (.lst all)) : ∀ {ps : List α}, (∀ p ∈ ps, ∃ ρ1, g (F p) ρ S = .ok ρ1 S ∧ t ρ1 S = .ok true S ∧ a ρ1 S = .ok (G p) S) → mLcOGo n all g t a ρ (ps.map F) S = .ok (ps.map G) S
  | [], _ => by
    rw [List.map_nil]
    simp only [mLcOGo]
    rw [if_pos hS]
    rfl
  | p :: ps, h => by
    obtain ⟨ρ1, e1, e2, e3⟩ := h p List.mem_cons_self
    have ih := lcO_map F G hS (ps := ps) fun q hq => h q (List.mem_cons_of_mem _ hq)
    rw [List.map_cons]
    simp only [mLcOGo]
    rw [if_pos hS]
    simp only [e1, e2, e3, Res.nox, Res.bind, if_true, ih, List.map_cons]
theorem ev_dget2 : mDGet2 fd fk fx ρ S = (fd ρ S).bind fun a S1 => if (lookD a S1).isSome = true then (fk ρ S1).bind fun y S2 => (fx ρ S2).bind fun z S3 => getD a y z S3 else .bad := nrfl rfl
theorem ev_dget1 : mDGet1 fd fk ρ S = (fd ρ S).bind fun a S1 => if (lookD a S1).isSome = true then (fk ρ S1).bind fun y S2 => getD a y .non S2 else .bad := nrfl rfl
theorem ev_dsetd : mDSetd fd fk fx ρ S = (fd ρ S).bind fun a S1 => if isObj a = true ∧ (lookD a S1).isSome = true then (fk ρ S1).bind fun y S2 => (fx ρ S2).bind fun z S3 => setdD a y z S3 else .bad := nrfl rfl
theorem ev_putE : mPutE fd fk f ρ S = (f ρ S).bind fun z S1 => (fd ρ S1).bind fun a S2 => (fk ρ S2).bind fun y S3 => putD a y z ρ S3 := nrfl rfl
theorem ev_appE : mAppE fo fe ρ S = (fo ρ S).bind fun a S1 => if (lookL a S1).isSome = true then (fe ρ S1).bind fun y S2 => (match lookL a S2 with
  | some xs => if xs.length < sizeM then .ok .non (setS a (.lst (xs ++ [y])) S2) else .bad
  | none => .bad) else .bad := nrfl rfl
theorem ev_newD : mNewD ρ S = .ok (.dk [] []) S := nrfl rfl
theorem look_l (h : S[n]? = some (.lst xs)) : lookL (.obj n) S = some xs := by rw [lookL_obj, h]
end
end Mir
set_option maxHeartbeats 4000000
namespace Mir
open PySem L2
variable {ρ : Rho} {S : Store}
theorem ev_fldO {c f : Str} {fe} : mFldO c f fe ρ S = (fe ρ S).bind (fldO c f) := rfl
theorem ev_fldPut {c f : Str} {fo fe} : mFldPut c f fo fe ρ S = (fe ρ S).bind fun z S1 => (fo ρ S1).bind fun a S2 => putI c f a z ρ S2 := rfl
theorem ev_makeO {c : Str} {n : Nat} {m : List PV → Store → Res PV} {fa} : mMakeO c n m fa ρ S = (fa ρ S).bind fun xs S1 => if xs.length + 1 = n then (m (.obj S1.length :: xs) (S1 ++ [.ins c [] []])).bind fun y S2 => (match y with
  | .non => .ok (.obj S1.length) S2
  | _ => .bad) else .bad := rfl
theorem ev_listRv {f} : mListRv f ρ S = (f ρ S).bind lstRv := rfl
end Mir
set_option maxHeartbeats 4000000
namespace Mir
open PySem L2
/-- cells as a plain tuple -/
def celP (cs : List Int) : PV := .pt (cs.map PV.int)
def tieP (t : Tie) : PV := .tup [.int t.1, celP t.2]
theorem unpt_cel (cs : List Int) : unpt (celP cs) = rowP cs := rfl
def puzP (rels : List Rl) (cc : Nat) (ts : List Tie) : PV := .ins "Puzzle" puzNs [bookV rels, .int cc, .tup (ts.map tieP)]
end Mir
set_option maxHeartbeats 4000000
namespace Mir
open PySem L2
noncomputable section
end
end Mir
set_option maxHeartbeats 4000000
namespace Mir
open PySem L2
theorem at_map {α : Type} (F : α → PV) {xs : List α} {i : Nat} {x : α} (h : xs[i]? = some x) : atI (xs.map F) (i : Int) = some (F x) := by
  have il : i < xs.length := (List.getElem?_eq_some_iff.mp h).1
  obtain ⟨hj, ea⟩ := atI_ok (xs := xs.map F) (i := (i : Int)) (by omega) (by rw [List.length_map]; omega)
  rw [ea]
  have e2 := (List.getElem?_eq_some_iff.mp h).2
  simp only [List.getElem_map, Int.toNat_natCast, e2]
def relRows (rels : List Rl) (i : Nat) : List (List Int) := (rels.getD i (0, [])).2
structure PzOk (rels : List Rl) (cc : Nat) (ts : List Tie) : Prop where
  ties : ∀ t ∈ ts, TieOk rels cc t
  few : ∀ p ∈ rels, 1 ≤ p.1 ∧ p.1 ≤ 4
  len : ts.length ≤ 100000
  cells : cc ≤ 1000
theorem PzOk.tie {rels : List Rl} {cc : Nat} {ts : List Tie} (h : PzOk rels cc ts) {t : Tie} (ht : t ∈ ts) : ∃ p, rels[t.1]? = some p ∧ t.2.length = p.1 ∧ 1 ≤ t.2.length ∧ t.2.length ≤ 4 ∧ ∀ c ∈ t.2, 0 ≤ c ∧ c < (cc : Int) := by
  obtain ⟨⟨p, hp, hl⟩, hc⟩ := h.ties t ht
  have := h.few p (List.mem_of_getElem? hp)
  exact ⟨p, hp, hl, by omega, by omega, hc⟩
end Mir
set_option maxHeartbeats 4000000
namespace Mir
open PySem L2
structure StOk (cc : Nat) (st : List (Nat × Int)) : Prop where
  asc : (st.map Prod.fst).Pairwise (· < ·)
  bits : ∀ p ∈ st, p.1 < cc ∧ (p.2 = 0 ∨ p.2 = 1)
theorem StOk.nil (cc : Nat) : StOk cc [] := ⟨List.Pairwise.nil, fun _ m => by cases m⟩
theorem StOk.nd {cc : Nat} {st : List (Nat × Int)} (h : StOk cc st) : (st.map Prod.fst).Nodup := List.Pairwise.imp (fun h => Nat.ne_of_lt h) h.asc
end Mir
set_option maxHeartbeats 4000000
namespace Mir
open PySem L2
end Mir
set_option maxHeartbeats 0
namespace Mir
open PySem L2
def isT : Nat → PV → Bool
  | _, .int i => decide (0 ≤ i) && decide (i ≤ 2)
  | n + 1, .tup [a, b, c] => isT n a && (isT n b && isT n c)
  | _, _ => false
/-- a table's value of three rows -/
def mix (tb A B C : List Int) : List Int := (List.range 8).map fun k => tb.getD (4 * A.getD k 0 + 2 * B.getD k 0 + C.getD k 0).toNat 0
def placeR (i : Int) : List Int := [[0, 0, 0, 0, 1, 1, 1, 1], [0, 0, 1, 1, 0, 0, 1, 1], [0, 1, 0, 1, 0, 1, 0, 1]].getD i.toNat []
def tbl (tb : List Int) : PV → List Int
  | .int i => placeR i
  | .tup [a, b, c] => mix tb (tbl tb a) (tbl tb b) (tbl tb c)
  | _ => []
theorem row_ext {n : Nat} {a b : List Int} (ha : a.length = n) (hb : b.length = n) (h : ∀ j, j < n → a.getD j 0 = b.getD j 0) : a = b := by
  apply List.ext_getElem (ha.trans hb.symm)
  intro j h1 h2
  have := h j (by omega)
  rw [List.getD_eq_getElem?_getD, List.getD_eq_getElem?_getD, List.getElem?_eq_getElem h1, List.getElem?_eq_getElem h2] at this
  exact this
end Mir
set_option maxHeartbeats 4000000
namespace Mir
open PySem L2
end Mir
set_option maxHeartbeats 4000000
namespace Mir
open PySem L2
mutual
theorem low_data (n : Nat) : ∀ {x : PV} {d : PyData}, toD x = some d → low n x = true
  | .non, _, _ => rfl
  | .bl _, _, _ => rfl
  | .int _, _, _ => rfl
  | .str _, _, _ => rfl
  | .tup xs, _, h => by
    simp only [toD, Option.map_eq_some_iff] at h
    obtain ⟨ds, e, _⟩ := h
    exact lows_data n e
  | .lst xs, _, h => by
    simp only [toD, Option.map_eq_some_iff] at h
    obtain ⟨ds, e, _⟩ := h
    exact lows_data n e
  | .cl xs, _, h => by
    simp only [toD, Option.map_eq_some_iff] at h
    obtain ⟨ds, e, _⟩ := h
    exact lows_data n e
  | .obj _, _, h => by simp only [toD] at h; cases h
  | .dk _ _, _, h => by simp only [toD] at h; cases h
  | .ins _ _ _, _, h => by simp only [toD] at h; cases h
  | .fn _, _, _ => rfl
  | .pt _, _, h => by simp only [toD] at h; cases h
theorem lows_data (n : Nat) : ∀ {xs : List PV} {ds : List PyData}, toDs xs = some ds → lows n xs = true
  | [], _, _ => rfl
  | x :: xs, _, h => by
    simp only [toDs] at h
    split at h
    · rename_i d ds e1 e2
      show (low n x && lows n xs) = true
      rw [low_data n e1, lows_data n e2]
      rfl
    · cases h
end
theorem lows_of {n : Nat} : ∀ {xs : List PV}, (∀ x ∈ xs, low n x = true) → lows n xs = true
  | [], _ => rfl
  | x :: xs, h => by
    show (low n x && lows n xs) = true
    rw [h x List.mem_cons_self, lows_of fun y hy => h y (List.mem_cons_of_mem _ hy)]
    rfl
theorem Ly.low {x : PV} {k : Nat} (h : Ly x k) (n : Nat) : low n x = true := by
  obtain ⟨d, a, _⟩ := h
  exact low_data n a
end Mir
set_option maxHeartbeats 4000000
namespace Mir
open PySem L2
theorem Ly.clean {x : PV} {k : Nat} (h : Ly x k) : Clean x := by
  obtain ⟨d, a, _⟩ := h
  unfold Clean
  rw [a]
  rfl
theorem Ly.no {x : PV} {k : Nat} (h : Ly x k) : NoObj x := h.clean.no
theorem ly_all {k : Nat} : ∀ {xs : List PV} {ds : List PyData}, toDs xs = some ds → PyData.canLayAll0 ds = true → PyData.depthAll ds ≤ k → ∀ x ∈ xs, Ly x k
  | [], _, _, _, _, x, hx => by cases hx
  | y :: ys, ds, h, h2, h3, x, hx => by
    simp only [toDs] at h
    split at h
    · rename_i d es e1 e2
      cases h
      simp only [PyData.canLayAll0, Bool.and_eq_true] at h2
      simp only [PyData.depthAll] at h3
      rcases List.mem_cons.mp hx with rfl | hx
      · exact ⟨d, e1, h2.1, by omega⟩
      · exact ly_all e2 h2.2 (by omega) x hx
    · cases h
theorem Ly.tup {xs : List PV} {k : Nat} (h : Ly (.tup xs) k) : ∀ x ∈ xs, Ly x k := by
  obtain ⟨d, a, b, c⟩ := h
  simp only [toD, Option.map_eq_some_iff] at a
  obtain ⟨ds, e, rfl⟩ := a
  simp only [PyData.canLay0] at b
  simp only [PyData.depth] at c
  exact ly_all e b (by omega)
theorem eqD_deep (neg : Bool) {x y : PV} {k j : Nat} (hx : Ly x k) (hy : Ly y j) (hk : k ≤ 60) (hj : j ≤ 60) (h : ∀ a b, x = .str a → y = .str b → False) : ∃ d e, toD x = some d ∧ toD y = some e ∧ ∀ S, gEqD neg x y S = .ok (.bl (if neg then !PyData.eqv d e else PyData.eqv d e)) S := by
  obtain ⟨d, a1, a2, a3⟩ := hx
  obtain ⟨e, b1, b2, b3⟩ := hy
  refine ⟨d, e, a1, b1, fun S => ?_⟩
  have s1 : SeqAt.shaped d = true := Bool.and_eq_true_iff.mpr ⟨a2, decide_eq_true (by omega)⟩
  have s2 : SeqAt.shaped e = true := Bool.and_eq_true_iff.mpr ⟨b2, decide_eq_true (by omega)⟩
  have : gEqD neg x y S = gEqDeep neg x y S := gEqD_else (by rintro ⟨a, b, h1, h2⟩; exact h a b h1 h2)
  rw [this]
  unfold gEqDeep
  simp only [a1, b1, s1, s2, Bool.and_self, if_true]
end Mir
set_option maxHeartbeats 4000000
namespace Mir
open PySem L2
end Mir
set_option maxHeartbeats 4000000
namespace Mir
open PySem L2
end Mir
set_option maxHeartbeats 4000000
namespace Mir
open PySem L2
def Wp {α : Type} (r : Res α) (Q : α → Store → Prop) : Prop := ∃ a S, r = .ok a S ∧ Q a S
section
variable {α β γ : Type} {r r' : Res α} {k : α → Store → Res β} {P Q' : α → Store → Prop} {Q : β → Store → Prop} {S : Store} {ρ : Rho}
theorem wp_ok {a : α} : Wp (.ok a S) P = P a S := by
  apply propext
  constructor
  · rintro ⟨a', S', e, h⟩
    cases e
    exact h
  · intro h
    exact ⟨a, S, rfl, h⟩
/-- the store is the same (as a name, so that simp leaves it) -/
def Eqs (S T : Store) : Prop := S = T
/-- this and nothing else -/
def IsE (a : α) (S : Store) (x : α) (T : Store) : Prop := x = a ∧ T = S
theorem wp_eq {a : α} (h : Wp r (IsE a S)) : r = .ok a S := by
  obtain ⟨x, T, e, rfl, rfl⟩ := h
  exact e
theorem wp_then (h : Wp r P) (i : ∀ a S, P a S → Wp (k a S) Q) : Wp (r.bind k) Q := by
  obtain ⟨a, S, e, q⟩ := h
  rw [e]
  exact i a S q
/-- what holds behind a round of a loop -/
def LoopQ (I : Rho → Store → Prop) (k : Out → Store → Res β) (Q : β → Store → Prop) : Out → Store → Prop
  | .nx ρ, S => I ρ S
  | .ct ρ, S => I ρ S
  | .bk ρ, S => Wp (k (.nx ρ) S) Q
  | .rt v, S => Wp (k (.rt v) S) Q
section
variable {I : Rho → Store → Prop} {k : Out → Store → Res β}
theorem lq_nx : LoopQ I k Q (.nx ρ) S = I ρ S := nrfl rfl
theorem lq_ct : LoopQ I k Q (.ct ρ) S = I ρ S := nrfl rfl
theorem lq_bk : LoopQ I k Q (.bk ρ) S = Wp (k (.nx ρ) S) Q := nrfl rfl
theorem lq_rt {v : PV} : LoopQ I k Q (.rt v) S = Wp (k (.rt v) S) Q := nrfl rfl
end
section
variable {g : PV → Rho → Store → Res Rho} {b : Rho → Store → Res Out} {k : Out → Store → Res β} {F : γ → PV} {ps : List γ}
theorem go_cons {x : PV} {xs : List PV} : mForGo g b (x :: xs) ρ S = (((g x ρ S).bind b).bind fun o S2 => match o with
    | .nx ρ2 => mForGo g b xs ρ2 S2
    | .ct ρ2 => mForGo g b xs ρ2 S2
    | .bk ρ2 => .ok (.nx ρ2) S2
    | .rt x => .ok (.rt x) S2) := by
  show (g x ρ S).bind _ = _
  cases g x ρ S <;> rfl
theorem wp_for (I : List γ → Rho → Store → Prop) (h0 : I [] ρ S) (hs : ∀ pre x post ρ S, ps = pre ++ x :: post → I pre ρ S → Wp ((g (F x) ρ S).bind b) (LoopQ (I (pre ++ [x])) k Q)) (h1 : ∀ ρ S, I ps ρ S → Wp (k (.nx ρ) S) Q) : Wp ((mForGo g b (ps.map F) ρ S).bind k) Q := by
  have key : ∀ (post pre : List γ), ps = pre ++ post → ∀ ρ S, I pre ρ S → Wp ((mForGo g b (post.map F) ρ S).bind k) Q := by
    intro post
    induction post with
    | nil =>
      intro pre e ρ S hp
      rw [List.append_nil] at e
      exact h1 ρ S (e ▸ hp)
    | cons x post ih =>
      intro pre e ρ S hp
      obtain ⟨o, S', eo, ho⟩ := hs pre x post ρ S e hp
      rw [List.map_cons, go_cons, eo]
      cases o with
      | nx ρ' => exact ih (pre ++ [x]) (by rw [e, List.append_assoc]; rfl) ρ' S' ho
      | ct ρ' => exact ih (pre ++ [x]) (by rw [e, List.append_assoc]; rfl) ρ' S' ho
      | bk ρ' => exact ho
      | rt v => exact ho
  exact key ps [] rfl ρ S h0
end
section
variable {g : PV → Rho → Store → Res Rho} {t : Rho → Store → Res Bool} {e : Rho → Store → Res PV} {k : List PV → Store → Res β} {F : γ → PV} {ps : List γ}
end
theorem ev_asT {f : Rho → Store → Res PV} : mAsT f ρ S = (f ρ S).bind fun x S1 => .ok (unpt x) S1 := nrfl rfl
theorem setS_obj {n : Nat} {o : SO} : setS (.obj n) o S = S.set n o := nrfl rfl
theorem unpt_pt {xs : List PV} : unpt (.pt xs) = .tup xs := nrfl rfl
theorem unpt_tup {xs : List PV} : unpt (.tup xs) = .tup xs := nrfl rfl
theorem unpt_non : unpt .non = .non := nrfl rfl
theorem ev_while {c : Rho → Store → Res Bool} {b : Rho → Store → Res Out} {n : Nat} : mWhile n c b ρ S = mWhileGo c b n ρ S := nrfl rfl
theorem wp_def {nN : Nat} {f : Rho → Store → Res Out} {xs : List PV} {Q : PV → Store → Prop} : Wp (mDef nN f xs S) Q = Wp ((f (rho0 nN xs) S).bind toRet) Q := nrfl rfl
def fldI (c f : Str) (x : PV) (S : Store) : Res PV := match x with
  | .ins c' ns xs => if c' = c then (match (ns.zip xs).lookup f with | some y => .ok y S | none => .bad) else .bad
  | _ => .bad
section
variable {ρ : Rho} {S : Store} {rels : List Rl} {cc : Nat} {ts : List Tie}
theorem ek_fldI {c f : Str} {a : Rho → Store → Res PV} : mFldI c f a ρ S = (a ρ S).bind (fldI c f) := nrfl rfl
theorem fz_ties : fldI "Puzzle" "ties" (puzP rels cc ts) S = .ok (.tup (ts.map tieP)) S := nrfl (by kernel_rfl)
theorem fz_cells : fldI "Puzzle" "cell_count" (puzP rels cc ts) S = .ok (.int cc) S := nrfl (by kernel_rfl)
theorem fz_book : fldI "Puzzle" "book" (puzP rels cc ts) S = .ok (bookV rels) S := nrfl (by kernel_rfl)
theorem fz_rels : fldI "Book" "relations" (bookV rels) S = .ok (.tup (rels.map relP)) S := nrfl (by kernel_rfl)
theorem fz_rows {p : Rl} : fldI "Relation" "rows" (relP p) S = .ok (.tup (p.2.map rowP)) S := nrfl (by kernel_rfl)
theorem fz_size {p : Rl} : fldI "Relation" "size" (relP p) S = .ok (.int p.1) S := nrfl (by kernel_rfl)
end
def kSeq (g : Rho → Store → Res Out) : Out → Store → Res Out := fun o S1 => match o with
  | .nx ρ' => g ρ' S1
  | o => .ok o S1
def kIf (f g : Rho → Store → Res Out) (ρ : Rho) : Bool → Store → Res Out := fun k S1 => if k then f ρ S1 else g ρ S1
section
variable {f g : Rho → Store → Res Out} {t : Rho → Store → Res Bool} {v : PV}
theorem ek_seq : mSeq f g ρ S = (f ρ S).bind (kSeq g) := nrfl rfl
theorem ek_ifS : mIfS t f g ρ S = (t ρ S).bind (kIf f g ρ) := nrfl rfl
theorem k_nx : kSeq g (.nx ρ) S = g ρ S := nrfl rfl
theorem k_ct : kSeq g (.ct ρ) S = .ok (.ct ρ) S := nrfl rfl
theorem k_bk : kSeq g (.bk ρ) S = .ok (.bk ρ) S := nrfl rfl
theorem k_rt : kSeq g (.rt v) S = .ok (.rt v) S := nrfl rfl
theorem k_t : kIf f g ρ true S = f ρ S := nrfl rfl
theorem k_f : kIf f g ρ false S = g ρ S := nrfl rfl
end
theorem bind_as {α β γ : Type} {r : Res α} {f : α → Store → Res β} {g : β → Store → Res γ} : (r.bind f).bind g = r.bind fun a S => (f a S).bind g := by cases r <;> rfl
theorem cz0 : ((0 : Nat) : Int) = 0 := nrfl rfl
theorem cz1 : ((1 : Nat) : Int) = 1 := nrfl rfl
theorem cz2 : ((2 : Nat) : Int) = 2 := nrfl rfl
theorem cz3 : ((3 : Nat) : Int) = 3 := nrfl rfl
theorem cz4 : ((4 : Nat) : Int) = 4 := nrfl rfl
section
variable {S : Store} {xs ys : List PV} {i j : Int}
theorem len_tup : gLen [.tup xs] S = .ok (.int xs.length) S := nrfl rfl
theorem len_pt : gLen [.pt xs] S = .ok (.int xs.length) S := nrfl rfl
theorem len_lst : gLen [.lst xs] S = .ok (.int xs.length) S := nrfl rfl
theorem len_cl : gLen [.cl xs] S = .ok (.int xs.length) S := nrfl rfl
theorem lenR {r : List Int} : gLen [rowP r] S = .ok (.int r.length) S := by unfold rowP; rw [len_tup, List.length_map]
theorem lenC {cs : List Int} : gLen [celP cs] S = .ok (.int cs.length) S := by unfold celP; rw [len_pt, List.length_map]
theorem sqC {cs : List Int} : toSeq (celP cs) S = .ok (cs.map PV.int) S := nrfl rfl
theorem addA_int : gAddA (.int i) (.int j) S = .ok (.int (i + j)) S := nrfl rfl
theorem addA_tup : gAddA (.tup xs) (.tup ys) S = if xs.length + ys.length ≤ 100000 then .ok (.tup (xs ++ ys)) S else .bad := nrfl rfl
theorem addA_lst : gAddA (.lst xs) (.lst ys) S = if xs.length + ys.length ≤ 100000 then .ok (.lst (xs ++ ys)) S else .bad := nrfl rfl
theorem mulA_int : gMulA (.int i) (.int j) S = gMul (.int i) (.int j) S := nrfl rfl
theorem mul_int : gMul (.int i) (.int j) S = if (small64 i || small64 j) = true then .ok (.int (i * j)) S else .bad := nrfl rfl
theorem sub_int : Mir.gSub (.int i) (.int j) S = .ok (.int (i - j)) S := nrfl rfl
theorem lt_int : gLt (.int i) (.int j) S = .ok (.bl (decide (i < j))) S := nrfl rfl
theorem le_int : gLe (.int i) (.int j) S = .ok (.bl (decide (i ≤ j))) S := nrfl rfl
theorem gt_int : gGt (.int i) (.int j) S = .ok (.bl (decide (j < i))) S := nrfl rfl
theorem neg_int : gNeg (.int i) S = .ok (.int (-i)) S := nrfl rfl
theorem int_int : gInt [.int i] S = .ok (.int i) S := nrfl rfl
theorem tuple_lst : gTuple [.lst xs] S = .ok (.tup xs) S := nrfl rfl
theorem tuple_tup : gTuple [.tup xs] S = .ok (.tup xs) S := nrfl rfl
theorem tupleP_lst : gTupleP [.lst xs] S = .ok (.pt xs) S := nrfl rfl
theorem tupleP_pt : gTupleP [.pt xs] S = .ok (.pt xs) S := nrfl rfl
theorem list_tup : gList [.tup xs] S = .ok (.lst xs) S := nrfl rfl
theorem list_lst : gList [.lst xs] S = .ok (.lst xs) S := nrfl rfl
theorem in_own {neg : Bool} {k : Nat} {f : Rho → Store → Res PV} {ρ : Rho} : mInOwn neg k f ρ S = (f ρ S).bind fun x S1 => match ρ[k]? with
  | some (.own (.lst xs)) => gInD neg x (.lst xs) S1
  | _ => .bad := nrfl rfl
end
end
end Mir
namespace MirCg
open Mir
end MirCg
set_option maxHeartbeats 4000000
namespace Mir
open PySem L2
noncomputable section
end
end Mir
set_option maxHeartbeats 4000000
namespace Mir
open PySem L2
theorem every_len (n : Nat) : (rowsE n).length = 2 ^ n := rowsE_len n
/-- one to three relations -/
structure ThOk (rels : List Rl) : Prop where
  all : ∀ p ∈ rels, RlOk p.1 p.2
  ne : 1 ≤ rels.length
  three : rels.length ≤ 3
theorem ThOk.bk {rels : List Rl} (h : ThOk rels) : BkOk rels := ⟨h.all, h.ne, by have := h.three; omega⟩
end Mir
set_option maxHeartbeats 4000000
namespace Mir
open PySem L2
end Mir
set_option maxHeartbeats 4000000
namespace Mir
open PySem L2
end Mir
set_option maxHeartbeats 4000000
namespace Mir
open PySem L2 PyProof.Rows
open PySem.W (dataLt keyToksAll keyToks)
theorem code_lt : ∀ n, n ≤ 4 → ∀ q ∈ rowsE n, ∀ r ∈ rowsE n, TS.code 1000000 q < TS.code 1000000 r → q < r := by
  intro n hn
  match n, hn with
  | 0, _ => decide +kernel
  | 1, _ => decide +kernel
  | 2, _ => decide +kernel
  | 3, _ => decide +kernel
  | 4, _ => decide +kernel
end Mir
set_option maxHeartbeats 4000000
namespace Mir
open PySem L2 PyProof.Rows
open PySem.W (dataLt keyToksAll keyToks)
end Mir
set_option maxHeartbeats 4000000
namespace Mir
open PySem L2
noncomputable section
def Bf__law_made : Rho → Store → Res Out :=
  (mSeq (mIfS (mB (mOp (gEqD false) (mArgs gLen (mCons (mVar 1) mNil)) (mC (.int 1))))
    (mRet (mArgs gTuple (mCons (mFrz (mLc (mSeqOf (mOp gIx (mVar 1) (mC (.int 0)))) (gNm 2) mTrue (mOp gIx (mVar 0) (mVar 2)) [2])) mNil)))
    mSkip)
    (mSeq (mIfS (mB (mOp (gEqD false) (mArgs gLen (mCons (mVar 1) mNil)) (mC (.int 2))))
    (mRet (mArgs gTuple (mCons (mFrz (mLc (mRange gZipA (mCons (mOp gIx (mVar 1) (mC (.int 0))) (mCons (mOp gIx (mVar 1) (mC (.int 1))) mNil))) (gTupM 2 (gsCons (gNm 2) (gsCons (gNm 3) gsNil))) mTrue (mOp gIx (mVar 0) (mOp gAddA (mOp gMulA (mC (.int 2)) (mVar 2)) (mVar 3))) [2, 3])) mNil)))
    mSkip)
    (mRet (mArgs gTuple (mCons (mFrz (mLc (mRange gZip3 (mCons (mOp gIx (mVar 1) (mC (.int 0))) (mCons (mOp gIx (mVar 1) (mC (.int 1))) (mCons (mOp gIx (mVar 1) (mC (.int 2))) mNil)))) (gTupM 3 (gsCons (gNm 2) (gsCons (gNm 3) (gsCons (gNm 4) gsNil)))) mTrue (mOp gIx (mVar 0) (mOp gAddA (mOp gAddA (mOp gMulA (mC (.int 4)) (mVar 2)) (mOp gMulA (mC (.int 2)) (mVar 3))) (mVar 4))) [2, 3, 4])) mNil)))))
def Mf__law_made : List PV → Store → Res PV := mDef 5 Bf__law_made
def Bf__law_chosen : Rho → Store → Res Out :=
  (mSeq (mSet 2 (mFrz (mArgs gLst (mCons (mArgs gTup mNil) mNil))))
    (mSeq (mFor (mRange gRange1 (mCons (mOp gAddA (mIndex (mFrz (mArgs gLst (mCons (mC (.int 2)) (mCons (mC (.int 4)) (mCons (mC (.int 8)) mNil))))) (mCons (mArgs gLen (mCons (mVar 1) mNil)) mNil)) (mC (.int 1))) mNil)) (gNm 3)
    (mSeq (mSet 4 (mFrz (mArgs gLst mNil)))
    (mSeq (mFor (mSeqOf (mVar 2)) (gNm 5)
    (mSet 4 (mOp gAddA (mVar 4) (mFrz (mLc (mSeqOf (mVar 0)) (gNm 6) (mOr (mB (mOp (gEqD false) (mArgs gLen (mCons (mVar 5) mNil)) (mC (.int 0)))) (mB (mOp gGeA (mVar 6) (mOp gIx (mVar 5) (mUn gNeg (mC (.int 1))))))) (mOp gAddA (mVar 5) (mArgs gTup (mCons (mVar 6) mNil))) [6])))))
    (mSet 2 (mVar 4)))))
    (mRet (mVar 2))))
def Mf__law_chosen : List PV → Store → Res PV := mDef 7 Bf__law_chosen
def Bf__law_closed : Rho → Store → Res Out :=
  (mSeq (mSet 2 (mFrz (mArgs gList (mCons (mVar 0) mNil))))
    (mSeq (mSet 3 (mC (.int 0)))
    (mSeq (mSet 4 (mArgs gLen (mCons (mCall 1 Mq__law_every [] (mCons (mArgs gLen (mCons (mOp gIx (mVar 0) (mC (.int 0))) mNil)) mNil)) mNil)))
    (mSeq (mFor (mRange gRange1 (mCons (mC (.int 16)) mNil)) (gNm 5)
    (mSeq (mSetOwn 6 (mArgs gLst mNil))
    (mSeq (mFor (mSeqOf (mCall 2 Mf__law_chosen [] (mCons (mFrz (mLc (mRange gRange1 (mCons (mArgs gLen (mCons (mVar 2) mNil)) mNil)) (gNm 9) mTrue (mVar 9) [9])) (mCons (mVar 1) mNil)))) (gNm 7)
    (mIfS (mB (mOp gGeA (mOp gIx (mVar 7) (mUn gNeg (mC (.int 1)))) (mVar 3)))
    (mSeq (mSet 8 (mCall 2 Mf__law_made [] (mCons (mVar 1) (mCons (mFrz (mLc (mSeqOf (mVar 7)) (gNm 9) mTrue (mOp gIx (mVar 2) (mVar 9)) [9])) mNil))))
    (mIfS (mAnd (mB (mOp (gInD true) (mVar 8) (mVar 2))) (mB (mInOwn true 6 (mVar 8))))
    (mAppend 6 (mVar 8))
    mSkip))
    mSkip))
    (mFrzS 6 (mSeq (mSet 3 (mArgs gLen (mCons (mVar 2) mNil)))
    (mSeq (mSet 2 (mOp gAddA (mVar 2) (mVar 6)))
    (mIfS (mOr (mB (mOp (gEqD false) (mArgs gLen (mCons (mVar 6) mNil)) (mC (.int 0)))) (mB (mOp (gEqD false) (mArgs gLen (mCons (mVar 2) mNil)) (mVar 4))))
    (mRet (mVar 2))
    mSkip)))))))
    (mRet (mVar 2))))))
def Mf__law_closed : List PV → Store → Res PV := mDef 10 Bf__law_closed
end
end Mir
set_option maxHeartbeats 4000000
namespace Mir
open PySem L2 MirCg
local macro_rules | `(tactic| dsimp! [$ls,*]) => `(tactic| simp only [ev_bindExc, ev_asg, ev_unTup, ev_unLst, ev_tupM, ev_gsCons, ev_gsNil, ev_raise, ev_tryL, ev_tryOk, ev_tryExc, ev_tryB, ev_tryBOk, ev_tryBExc, endS_rtE, endS_nxE, ev_kin, ev_kget, ev_index, eqD_int, neD_int, ek_fldI, fz_ties, fz_cells, fz_book, fz_rels, fz_rows, fz_size, ev_bind, ev_nox, ek_seq, k_nx, k_ct, k_bk, k_rt, bind_as, ev_set, ev_setOwn, ev_share, ev_drop, ev_ret, ev_retOwn, ev_skip, ev_brk, ev_cnt, ek_ifS, k_t, k_f, ev_frzS, ev_append, ev_setIx, ev_for, ev_lc, ev_seqOf, ev_range, ev_var, ev_c, ev_op, ev_un, ev_args, ev_nil, ev_cons, ev_frz, ev_b, ev_and, ev_or, ev_not, ev_andV, ev_orV, ev_notV, ev_if, ev_chain, ev_isi, ev_ixOwn, ev_lenOwn, ev_call, ev_callK, ev_sl, ev_part, ev_true, ev_nm, ev_toB, frz, frzAt, toSeq_tup, toSeq_pt, toSeq_lst, toSeq_cl, toRet, mWipe, kbG, Mir.gTup, Mir.gLst, List.getElem?_cons_zero, List.getElem?_cons_succ, List.set_cons_zero, List.set_cons_succ, List.length_cons, List.length_nil, List.append_nil, List.nil_append, List.cons_append, Nat.reduceAdd, Nat.reduceLeDiff, Nat.reduceEqDiff, Nat.zero_add, reduceIte, Bool.false_eq_true, Bool.not_true, Bool.not_false, and_self, sizeM_eq, ev_make, ev_isiC, ev_sortD, ev_key, ev_join, ev_shr, ev_disp, ev_dput, ev_tru, gTru, cz0, cz1, cz2, cz3, cz4, Nat.reduceLT, Int.reduceEq, Int.reduceLT, Int.reduceLE, Int.reduceAdd, decide_true, decide_false, eqD_int, neD_int, eqD_str, neD_str, _root_.eq_self, len_tup, len_pt, len_lst, len_cl, lenR, lenC, sqC, unpt_cel, addA_int, addA_tup, addA_lst, mulA_int, mul_int, sub_int, lt_int, le_int, gt_int, geA_int, neg_int, int_int, tuple_lst, tuple_tup, tupleP_lst, tupleP_pt, ev_asT, setS_obj, unpt_pt, unpt_tup, unpt_non, list_tup, list_lst, in_own, ev_lc2, ev_dget2, ev_dget1, ev_dsetd, ev_putE, ev_appE, ev_newD, ev_fldO, ev_fldPut, ev_makeO, ev_listRv, ev_while, ev_gs, ev_gs0, ev_seqB, ev_callO, ev_indexT, wp_ok, wp_def, lq_nx, lq_ct, lq_bk, lq_rt, rho0, List.map_cons, List.map_nil, List.replicate, Nat.sub_self, Nat.reduceSub, $ls,*])
theorem every_q {n : Nat} (hn : n ≤ 15) (S : Store) : Mq__law_every [.int n] S = .ok (.lst ((rowsE n).map rowP)) S := every_ok hn S
theorem at_last {α : Type} {xs : List α} {x : α} : atI (xs ++ [x]) (-1) = some x := by
  unfold atI ixN
  rw [if_neg (by omega), if_pos (by rw [List.length_append]; simp; omega)]
  simp only [List.length_append, List.length_cons, List.length_nil, Option.bind_some]
  rw [show (-1 + ((xs.length + (0 + 1) : Nat) : Int)).toNat = xs.length by omega]
  simp
/-- the k-th values of rows of like length -/
theorem zip2_rows {n : Nat} {a b : List Int} (ha : a.length = n) (hb : b.length = n) : zipP (a.map PV.int) (b.map PV.int) = (List.range n).map fun j => PV.tup [.int (a.getD j 0), .int (b.getD j 0)] := by
  induction a generalizing b n with
  | nil =>
    simp at ha
    subst ha
    rfl
  | cons x a ih =>
    cases b with
    | nil => simp at hb; subst hb; simp at ha
    | cons y b =>
      subst ha
      rw [List.length_cons, List.range_succ_eq_map]
      simp only [List.map_cons, List.map_map]
      show _ :: zipP (a.map PV.int) (b.map PV.int) = _
      rw [ih rfl (by simpa using hb)]
      rfl
theorem zip3_rows {n : Nat} {a b c : List Int} (ha : a.length = n) (hb : b.length = n) (hc : c.length = n) : zip3P (a.map PV.int) (b.map PV.int) (c.map PV.int) = (List.range n).map fun j => PV.tup [.int (a.getD j 0), .int (b.getD j 0), .int (c.getD j 0)] := by
  induction a generalizing b c n with
  | nil =>
    simp at ha
    subst ha
    rfl
  | cons x a ih =>
    cases b with
    | nil => simp at hb; subst hb; simp at ha
    | cons y b =>
      cases c with
      | nil => simp at hc; subst hc; simp at ha
      | cons z c =>
        subst ha
        rw [List.length_cons, List.range_succ_eq_map]
        simp only [List.map_cons, List.map_map]
        show _ :: zip3P (a.map PV.int) (b.map PV.int) (c.map PV.int) = _
        rw [ih rfl (by simpa using hb) (by simpa using hc)]
        rfl
theorem bit_getD {r : List Int} (h : Bits r) (j : Nat) : r.getD j 0 = 0 ∨ r.getD j 0 = 1 := by
  rw [List.getD_eq_getElem?_getD]
  cases e : r[j]? with
  | none => exact .inl rfl
  | some v => exact h v (List.mem_of_getElem? e)
theorem len2 {α : Type} {t : List α} (h : t.length = 2) : ∃ a b, t = [a, b] := by
  match t, h with
  | [a, b], _ => exact ⟨a, b, rfl⟩
theorem len3 {α : Type} {t : List α} (h : t.length = 3) : ∃ a b c, t = [a, b, c] := by
  match t, h with
  | [a, b, c], _ => exact ⟨a, b, c, rfl⟩
theorem fmade_gen {n m : Nat} (hn : n ≤ 1000) (h1 : 1 ≤ m) (h3 : m ≤ 3) {tb : List Int} (hT : TabM m tb) {t : List (List Int)} (h : Tu n m t) {v : PV} (hlen : ∀ S, gLen [v] S = .ok (.int (t.length : Nat)) S) (hix : ∀ (k : Nat) r, t[k]? = some r → ∀ S, gIx v (.int k) S = .ok (rowP r) S) (S : Store) : Mf__law_made [rowP tb, v] S = .ok (rowP (madeN tb t n)) S := by
  obtain ⟨hl, hr⟩ := h
  have s2 : small64 2 = true := by decide
  have s4 : small64 4 = true := by decide
  have zl : n ≤ 100000 := by omega
  rcases (by omega : m = 1 ∨ m = 2 ∨ m = 3) with rfl | rfl | rfl
  · obtain ⟨a, rfl⟩ : ∃ a, t = [a] := List.length_eq_one_iff.mp hl
    obtain ⟨la, ba⟩ := hr a (by simp)
    have lc := lc_mapL (g := gNm 2) (t := mTrue) (a := mOp gIx (mVar 0) (mVar 2)) (ρ := [.val (rowP tb), .val v, .none, .none, .none]) (S := S) PV.int (fun x => PV.int (tb.getD x.toNat 0)) (ps := a) (fun x hx => by
      have b := ba x hx
      have e := ix_row (r := tb) (k := x.toNat) (by rw [hT.1]; rcases b with rfl | rfl <;> decide) S
      rw [show ((x.toNat : Nat) : Int) = x by rcases b with rfl | rfl <;> rfl] at e
      refine ⟨_, rfl, rfl, ?_⟩
      simp only [ev_bind, ev_nox, ev_seq, ev_set, ev_setOwn, ev_share, ev_drop, ev_ret, ev_retOwn, ev_skip, ev_brk, ev_cnt, ev_ifS, ev_frzS, ev_append, ev_setIx, ev_for, ev_lc, ev_seqOf, ev_range, ev_var, ev_c, ev_op, ev_un, ev_args, ev_nil, ev_cons, ev_frz, ev_b, ev_and, ev_or, ev_not, ev_andV, ev_orV, ev_notV, ev_if, ev_chain, ev_isi, ev_ixOwn, ev_lenOwn, ev_call, ev_callK, ev_sl, ev_part, ev_true, ev_nm, ev_toB, frz, frzAt, toSeq_tup, toSeq_pt, toSeq_lst, toSeq_cl, toRet, mWipe, kbG, Mir.gTup, Mir.gLst, List.getElem?_cons_zero, List.getElem?_cons_succ, List.set_cons_zero, List.set_cons_succ, List.length_cons, List.length_nil, List.append_nil, List.nil_append, List.cons_append, Nat.reduceAdd, Nat.reduceLeDiff, Nat.reduceEqDiff, Nat.zero_add, reduceIte, Bool.false_eq_true, Bool.not_true, Bool.not_false, and_self, sizeM_eq, e])
    have x0 : ∀ S, gIx v (.int 0) S = .ok (rowP a) S := hix 0 a rfl
    have res : madeN tb [a] n = a.map fun x => tb.getD x.toNat 0 := by
      unfold madeN
      refine List.ext_getElem (by simp [la]) fun j h1 h2 => ?_
      simp [colN, numOf, List.getD_eq_getElem?_getD, List.getElem?_eq_getElem (show j < a.length by simpa using h2)]
    rw [res]
    apply wp_eq
    unfold Mf__law_made Bf__law_made
    unfold rowP at *
    dsimp! [hlen, eqD_int, show decide (((1 : Nat) : Int) = 1) = true by decide, x0, lc, List.length_map, show a.length ≤ 100000 by omega, gTuple, List.map_map]
    exact ⟨rfl, rfl⟩
  · obtain ⟨a, b, rfl⟩ : ∃ a b, t = [a, b] := len2 hl
    obtain ⟨la, ba⟩ := hr a (by simp)
    obtain ⟨lb, bb⟩ := hr b (by simp)
    have lc := lc_mapL (g := gTupM 2 (gsCons (gNm 2) (gsCons (gNm 3) gsNil))) (t := mTrue) (a := mOp gIx (mVar 0) (mOp gAddA (mOp gMulA (mC (.int 2)) (mVar 2)) (mVar 3))) (ρ := [.val (rowP tb), .val v, .none, .none, .none]) (S := S) (fun j => PV.tup [.int (a.getD j 0), .int (b.getD j 0)]) (fun j => PV.int (tb.getD (numOf (colN [a, b] j)).toNat 0)) (ps := List.range n) (fun j hj => by
      have b1 := bit_getD ba j
      have b2 := bit_getD bb j
      have nm : numOf (colN [a, b] j) = 2 * a.getD j 0 + b.getD j 0 := by simp [colN, numOf]
      have e := ix_row (r := tb) (k := (numOf (colN [a, b] j)).toNat) (by rw [hT.1, nm]; rcases b1 with e1 | e1 <;> rcases b2 with e2 | e2 <;> rw [e1, e2] <;> decide) S
      rw [show (((numOf (colN [a, b] j)).toNat : Nat) : Int) = 2 * a.getD j 0 + b.getD j 0 by rw [nm]; rcases b1 with e1 | e1 <;> rcases b2 with e2 | e2 <;> rw [e1, e2] <;> decide] at e
      refine ⟨_, by simp only [ev_bindExc, ev_asg, ev_unTup, ev_unLst, ev_tupM, ev_gsCons, ev_gsNil, ev_raise, ev_tryL, ev_tryOk, ev_tryExc, ev_tryB, ev_tryBOk, ev_tryBExc, endS_rtE, endS_nxE, ev_kin, ev_kget, ev_index, eqD_int, neD_int, ev_bind, ev_nox, ev_seq, ev_set, ev_setOwn, ev_share, ev_drop, ev_ret, ev_retOwn, ev_skip, ev_brk, ev_cnt, ev_ifS, ev_frzS, ev_append, ev_setIx, ev_for, ev_lc, ev_seqOf, ev_range, ev_var, ev_c, ev_op, ev_un, ev_args, ev_nil, ev_cons, ev_frz, ev_b, ev_and, ev_or, ev_not, ev_andV, ev_orV, ev_notV, ev_if, ev_chain, ev_isi, ev_ixOwn, ev_lenOwn, ev_call, ev_callK, ev_sl, ev_part, ev_true, ev_nm, ev_toB, frz, frzAt, toSeq_tup, toSeq_pt, toSeq_lst, toSeq_cl, toRet, mWipe, kbG, Mir.gTup, Mir.gLst, List.getElem?_cons_zero, List.getElem?_cons_succ, List.set_cons_zero, List.set_cons_succ, List.length_cons, List.length_nil, List.append_nil, List.nil_append, List.cons_append, Nat.reduceAdd, Nat.reduceLeDiff, Nat.reduceEqDiff, Nat.zero_add, reduceIte, Bool.false_eq_true, Bool.not_true, Bool.not_false, and_self, sizeM_eq]; rfl, rfl, ?_⟩
      simp only [ev_bindExc, ev_asg, ev_unTup, ev_unLst, ev_tupM, ev_gsCons, ev_gsNil, ev_raise, ev_tryL, ev_tryOk, ev_tryExc, ev_tryB, ev_tryBOk, ev_tryBExc, endS_rtE, endS_nxE, ev_kin, ev_kget, ev_index, eqD_int, neD_int, ev_bind, ev_nox, ev_seq, ev_set, ev_setOwn, ev_share, ev_drop, ev_ret, ev_retOwn, ev_skip, ev_brk, ev_cnt, ev_ifS, ev_frzS, ev_append, ev_setIx, ev_for, ev_lc, ev_seqOf, ev_range, ev_var, ev_c, ev_op, ev_un, ev_args, ev_nil, ev_cons, ev_frz, ev_b, ev_and, ev_or, ev_not, ev_andV, ev_orV, ev_notV, ev_if, ev_chain, ev_isi, ev_ixOwn, ev_lenOwn, ev_call, ev_callK, ev_sl, ev_part, ev_true, ev_nm, ev_toB, frz, frzAt, toSeq_tup, toSeq_pt, toSeq_lst, toSeq_cl, toRet, mWipe, kbG, Mir.gTup, Mir.gLst, List.getElem?_cons_zero, List.getElem?_cons_succ, List.set_cons_zero, List.set_cons_succ, List.length_cons, List.length_nil, List.append_nil, List.nil_append, List.cons_append, Nat.reduceAdd, Nat.reduceLeDiff, Nat.reduceEqDiff, Nat.zero_add, reduceIte, Bool.false_eq_true, Bool.not_true, Bool.not_false, and_self, sizeM_eq, gAddA, gAdd, gMulA, gMul, Mir.gSub, gFdiv, gMod, gLt, gLe, gGt, geA_int, gLen, gInt, gAbs, gNeg, s2, Bool.true_or, e])
    rw [← zip2_rows la lb] at lc
    have x0 : ∀ S, gIx v (.int 0) S = .ok (rowP a) S := hix 0 a rfl
    have x1 : ∀ S, gIx v (.int 1) S = .ok (rowP b) S := hix 1 b rfl
    have z : ∀ S, gZipA [rowP a, rowP b] S = .ok (zipP (a.map PV.int) (b.map PV.int)) S := fun S => rfl
    have zz : (zipP (a.map PV.int) (b.map PV.int)).length = n := by rw [zip2_rows la lb]; simp
    apply wp_eq
    unfold Mf__law_made Bf__law_made
    dsimp! [hlen, eqD_int, Nat.reduceLeDiff, x0, x1, z, zz, zl, lc, gTuple, show decide (((1 + 1 : Nat) : Int) = 1) = false by decide, show decide (((1 + 1 : Nat) : Int) = 2) = true by decide, show decide (((2 : Nat) : Int) = 1) = false by decide, show decide (((2 : Nat) : Int) = 2) = true by decide]
    unfold madeN rowP
    rw [List.map_map]
    exact ⟨rfl, rfl⟩
  · obtain ⟨a, b, c, rfl⟩ : ∃ a b c, t = [a, b, c] := len3 hl
    obtain ⟨la, ba⟩ := hr a (by simp)
    obtain ⟨lb, bb⟩ := hr b (by simp)
    obtain ⟨lc', bc⟩ := hr c (by simp)
    have lc := lc_mapL (g := gTupM 3 (gsCons (gNm 2) (gsCons (gNm 3) (gsCons (gNm 4) gsNil)))) (t := mTrue) (a := mOp gIx (mVar 0) (mOp gAddA (mOp gAddA (mOp gMulA (mC (.int 4)) (mVar 2)) (mOp gMulA (mC (.int 2)) (mVar 3))) (mVar 4))) (ρ := [.val (rowP tb), .val v, .none, .none, .none]) (S := S) (fun j => PV.tup [.int (a.getD j 0), .int (b.getD j 0), .int (c.getD j 0)]) (fun j => PV.int (tb.getD (numOf (colN [a, b, c] j)).toNat 0)) (ps := List.range n) (fun j hj => by
      have b1 := bit_getD ba j
      have b2 := bit_getD bb j
      have b3 := bit_getD bc j
      have nm : numOf (colN [a, b, c] j) = 4 * a.getD j 0 + 2 * b.getD j 0 + c.getD j 0 := by simp [colN, numOf]; omega
      have e := ix_row (r := tb) (k := (numOf (colN [a, b, c] j)).toNat) (by rw [hT.1, nm]; rcases b1 with e1 | e1 <;> rcases b2 with e2 | e2 <;> rcases b3 with e3 | e3 <;> rw [e1, e2, e3] <;> decide) S
      rw [show (((numOf (colN [a, b, c] j)).toNat : Nat) : Int) = 4 * a.getD j 0 + 2 * b.getD j 0 + c.getD j 0 by rw [nm]; rcases b1 with e1 | e1 <;> rcases b2 with e2 | e2 <;> rcases b3 with e3 | e3 <;> rw [e1, e2, e3] <;> decide] at e
      refine ⟨_, by simp only [ev_bindExc, ev_asg, ev_unTup, ev_unLst, ev_tupM, ev_gsCons, ev_gsNil, ev_raise, ev_tryL, ev_tryOk, ev_tryExc, ev_tryB, ev_tryBOk, ev_tryBExc, endS_rtE, endS_nxE, ev_kin, ev_kget, ev_index, eqD_int, neD_int, ev_bind, ev_nox, ev_seq, ev_set, ev_setOwn, ev_share, ev_drop, ev_ret, ev_retOwn, ev_skip, ev_brk, ev_cnt, ev_ifS, ev_frzS, ev_append, ev_setIx, ev_for, ev_lc, ev_seqOf, ev_range, ev_var, ev_c, ev_op, ev_un, ev_args, ev_nil, ev_cons, ev_frz, ev_b, ev_and, ev_or, ev_not, ev_andV, ev_orV, ev_notV, ev_if, ev_chain, ev_isi, ev_ixOwn, ev_lenOwn, ev_call, ev_callK, ev_sl, ev_part, ev_true, ev_nm, ev_toB, frz, frzAt, toSeq_tup, toSeq_pt, toSeq_lst, toSeq_cl, toRet, mWipe, kbG, Mir.gTup, Mir.gLst, List.getElem?_cons_zero, List.getElem?_cons_succ, List.set_cons_zero, List.set_cons_succ, List.length_cons, List.length_nil, List.append_nil, List.nil_append, List.cons_append, Nat.reduceAdd, Nat.reduceLeDiff, Nat.reduceEqDiff, Nat.zero_add, reduceIte, Bool.false_eq_true, Bool.not_true, Bool.not_false, and_self, sizeM_eq]; rfl, rfl, ?_⟩
      simp only [ev_bindExc, ev_asg, ev_unTup, ev_unLst, ev_tupM, ev_gsCons, ev_gsNil, ev_raise, ev_tryL, ev_tryOk, ev_tryExc, ev_tryB, ev_tryBOk, ev_tryBExc, endS_rtE, endS_nxE, ev_kin, ev_kget, ev_index, eqD_int, neD_int, ev_bind, ev_nox, ev_seq, ev_set, ev_setOwn, ev_share, ev_drop, ev_ret, ev_retOwn, ev_skip, ev_brk, ev_cnt, ev_ifS, ev_frzS, ev_append, ev_setIx, ev_for, ev_lc, ev_seqOf, ev_range, ev_var, ev_c, ev_op, ev_un, ev_args, ev_nil, ev_cons, ev_frz, ev_b, ev_and, ev_or, ev_not, ev_andV, ev_orV, ev_notV, ev_if, ev_chain, ev_isi, ev_ixOwn, ev_lenOwn, ev_call, ev_callK, ev_sl, ev_part, ev_true, ev_nm, ev_toB, frz, frzAt, toSeq_tup, toSeq_pt, toSeq_lst, toSeq_cl, toRet, mWipe, kbG, Mir.gTup, Mir.gLst, List.getElem?_cons_zero, List.getElem?_cons_succ, List.set_cons_zero, List.set_cons_succ, List.length_cons, List.length_nil, List.append_nil, List.nil_append, List.cons_append, Nat.reduceAdd, Nat.reduceLeDiff, Nat.reduceEqDiff, Nat.zero_add, reduceIte, Bool.false_eq_true, Bool.not_true, Bool.not_false, and_self, sizeM_eq, gAddA, gAdd, gMulA, gMul, Mir.gSub, gFdiv, gMod, gLt, gLe, gGt, geA_int, gLen, gInt, gAbs, gNeg, s2, s4, Bool.true_or, e])
    rw [← zip3_rows la lb lc'] at lc
    have x0 : ∀ S, gIx v (.int 0) S = .ok (rowP a) S := hix 0 a rfl
    have x1 : ∀ S, gIx v (.int 1) S = .ok (rowP b) S := hix 1 b rfl
    have x2 : ∀ S, gIx v (.int 2) S = .ok (rowP c) S := hix 2 c rfl
    have z : ∀ S, gZip3 [rowP a, rowP b, rowP c] S = .ok (zip3P (a.map PV.int) (b.map PV.int) (c.map PV.int)) S := fun S => rfl
    have zz : (zip3P (a.map PV.int) (b.map PV.int) (c.map PV.int)).length = n := by rw [zip3_rows la lb lc']; simp
    apply wp_eq
    unfold Mf__law_made Bf__law_made
    dsimp! [hlen, eqD_int, Nat.reduceLeDiff, x0, x1, x2, z, zz, zl, lc, gTuple, show decide (((3 : Nat) : Int) = 1) = false by decide, show decide (((3 : Nat) : Int) = 2) = false by decide]
    unfold madeN rowP
    rw [List.map_map]
    exact ⟨rfl, rfl⟩
theorem fmade_ok {n m : Nat} (hn : n ≤ 1000) (h1 : 1 ≤ m) (h3 : m ≤ 3) {tb : List Int} (hT : TabM m tb) {t : List (List Int)} (h : Tu n m t) (S : Store) : Mf__law_made [rowP tb, .lst (t.map rowP)] S = .ok (rowP (madeN tb t n)) S :=
  fmade_gen hn h1 h3 hT h (fun S => by rw [len_lst, List.length_map]) (fun k r hk S => by rw [ix_l, at_map rowP hk]) S
def natP (k : Nat) : PV := .int (k : Nat)
def idxP (s : List Nat) : PV := .tup (s.map natP)
def chB (s : List Nat) (r : Nat) : Bool := s.isEmpty || decide (s.getLastD 0 ≤ r)
def nextC (L : Nat) (s : List Nat) : List (List Nat) := ((List.range L).filter (chB s)).map fun r => s ++ [r]
def chosenN (L : Nat) : Nat → List (List Nat)
  | 0 => [[]]
  | k + 1 => (chosenN L k).flatMap (nextC L)
theorem nextC_len (L : Nat) (s : List Nat) : (nextC L s).length ≤ L := by
  unfold nextC
  rw [List.length_map]
  refine Nat.le_trans (List.length_filter_le _ _) ?_
  rw [List.length_range]
  exact Nat.le_refl _
theorem flat_le {α β : Type} {f : α → List β} {k : Nat} (h : ∀ x, (f x).length ≤ k) : ∀ xs : List α, (xs.flatMap f).length ≤ xs.length * k
  | [] => by simp
  | x :: xs => by
    have a := h x
    have b := flat_le h xs
    rw [List.flatMap_cons, List.length_append, List.length_cons, Nat.succ_mul]
    omega
theorem chosenN_len (L : Nat) : ∀ m, (chosenN L m).length ≤ L ^ m
  | 0 => Nat.le_refl _
  | m + 1 => by
    have a := chosenN_len L m
    have b := flat_le (nextC_len L) (chosenN L m)
    rw [Nat.pow_succ]
    exact Nat.le_trans b (Nat.mul_le_mul_right _ a)
theorem chosenN_mem {L : Nat} : ∀ {m : Nat} {s : List Nat}, s ∈ chosenN L m → s.length = m ∧ ∀ k ∈ s, k < L
  | 0, s, h => by
    have e : s = [] := by simpa [chosenN] using h
    subst e
    exact ⟨rfl, fun k hk => by cases hk⟩
  | m + 1, s, h => by
    obtain ⟨t, ht, h2⟩ := List.mem_flatMap.mp h
    obtain ⟨r, hr, rfl⟩ := List.mem_map.mp h2
    obtain ⟨a, b⟩ := chosenN_mem ht
    have r1 := List.mem_range.mp (List.mem_filter.mp hr).1
    refine ⟨by simp [a], fun k hk => ?_⟩
    rcases List.mem_append.mp hk with q | q
    · exact b k q
    · rw [List.mem_singleton.mp q]
      exact r1
theorem rng_nat (n : Nat) : rng n = (List.range n).map natP := rfl
theorem fchosen_ok {L m : Nat} (hL : L ≤ 16) (h1 : 1 ≤ m) (h3 : m ≤ 3) {tb : List Int} (hT : tb.length = 2 ^ m) (S : Store) : Mf__law_chosen [.lst (rng L), rowP tb] S = .ok (.lst ((chosenN L m).map idxP)) S := by
  have ix : ∀ S, gIndex (.lst [.int 2, .int 4, .int 8]) [.int (tb.length : Nat)] S = .ok (.int ((m : Int) - 1)) S := fun S => by
    rw [hT]
    rcases (by omega : m = 1 ∨ m = 2 ∨ m = 3) with rfl | rfl | rfl <;> rfl
  have rg : ∀ S, gRange1 [.int ((m : Int) - 1 + 1)] S = .ok ((List.range m).map natP) S := fun S => by
    rw [show (m : Int) - 1 + 1 = m by omega]
    exact rngN (by omega) S
  have lt : ∀ S, gLen [rowP tb] S = .ok (.int (tb.length : Nat)) S := fun S => by unfold rowP; simp only [gLen, List.length_map]
  apply wp_eq
  unfold Mf__law_chosen Bf__law_chosen
  dsimp! [lt, ix, rg]
  refine wp_for (fun pre ρ S' => Eqs S S' ∧ ∃ s3 s4 s5, ρ = [.val (.lst (rng L)), .val (rowP tb), .val (.lst ((chosenN L pre.length).map idxP)), s3, s4, s5, .none]) ⟨rfl, _, _, _, rfl⟩ ?_ ?_
  · rintro pre x post _ _ ex ⟨rfl, s3, s4, s5, rfl⟩
    have few : (chosenN L pre.length).length ≤ 16 ^ 2 := by
      have a := chosenN_len L pre.length
      have b : pre.length ≤ 2 := by
        have := congrArg List.length ex
        rw [List.length_range, List.length_append, List.length_cons] at this
        omega
      exact Nat.le_trans a (Nat.le_trans (Nat.pow_le_pow_left hL _) (Nat.pow_le_pow_right (by omega) b))
    dsimp! []
    refine wp_for (F := idxP) (ps := chosenN L pre.length) (fun pr ρ S' => Eqs S S' ∧ ∃ s5, ρ = [.val (.lst (rng L)), .val (rowP tb), .val (.lst ((chosenN L pre.length).map idxP)), .val (natP x), .val (.lst ((pr.flatMap (nextC L)).map idxP)), s5, .none]) ⟨rfl, _, rfl⟩ ?_ ?_
    · rintro pr s po _ _ ex2 ⟨rfl, s5, rfl⟩
      have tb' : (rng L).length ≤ 100000 := by rw [rngN_len]; omega
      have ln : ∀ S, gLen [idxP s] S = .ok (.int (s.length : Nat)) S := fun S => by unfold idxP; simp only [gLen, List.length_map]
      have sl : s.length ≤ 16 := by
        have a := (chosenN_mem (show s ∈ chosenN L pre.length by rw [ex2]; simp)).1
        have := congrArg List.length ex
        rw [List.length_range, List.length_append, List.length_cons] at this
        omega
      have lc := fun s4 => lc_filterL (g := gNm 6) (t := mOr (mB (mOp (gEqD false) (mArgs gLen (mCons (mVar 5) mNil)) (mC (.int 0)))) (mB (mOp gGeA (mVar 6) (mOp gIx (mVar 5) (mUn gNeg (mC (.int 1))))))) (a := mOp gAddA (mVar 5) (mArgs Mir.gTup (mCons (mVar 6) mNil))) (ρ := [.val (.lst (rng L)), .val (rowP tb), .val (.lst ((chosenN L pre.length).map idxP)), .val (natP x), s4, .val (idxP s), .none]) (S := S) natP (fun r => idxP (s ++ [r])) (chB s) (ps := List.range L) (fun r hr => by
        refine ⟨_, rfl, ?_, fun _ => ?_⟩
        · dsimp! [ln, eqD_int]
          by_cases q : s = []
          · subst q
            rfl
          · have e1 : decide (((s.length : Nat) : Int) = 0) = false := decide_eq_false (by have := List.length_pos_iff.mpr q; omega)
            have e2 : s = s.dropLast ++ [s.getLastD 0] := by
              rw [List.getLastD_eq_getLast?, List.getLast?_eq_some_getLast q]
              exact (List.dropLast_concat_getLast q).symm
            have ix : ∀ S, gIx (idxP s) (.int (-1)) S = .ok (natP (s.getLastD 0)) S := fun S => by
              unfold idxP
              rw [ix_t]
              conv => lhs; rw [e2, List.map_append, List.map_cons, List.map_nil, at_last]
            dsimp! [e1, ix]
            unfold natP chB
            dsimp! []
            rw [List.isEmpty_eq_false_iff.mpr q, Bool.false_or]
            congr 1
            rw [Bool.eq_iff_iff, decide_eq_true_iff, decide_eq_true_iff]
            omega
        · dsimp! []
          unfold idxP
          dsimp! [List.length_map, show s.length + 1 ≤ 100000 by omega, List.map_append])
      rw [← rng_nat] at lc
      have fl : (pr.flatMap (nextC L)).length ≤ 90000 := by
        have a := flat_le (nextC_len L) pr
        have b : pr.length ≤ 16 ^ 2 := by
          have := congrArg List.length ex2
          rw [List.length_append] at this
          omega
        have c : pr.length * L ≤ 16 ^ 2 * 16 := Nat.mul_le_mul b hL
        omega
      have fn := nextC_len L s
      have e3 : (((List.range L).filter (chB s)).map fun r => idxP (s ++ [r])) = (nextC L s).map idxP := by
        unfold nextC
        rw [List.map_map]
        rfl
      dsimp! [tb', lc, e3, List.length_map, show (pr.flatMap (nextC L)).length + (nextC L s).length ≤ 100000 by omega]
      refine ⟨rfl, .val (idxP s), ?_⟩
      rw [List.flatMap_append, List.map_append]
      simp only [List.flatMap_cons, List.flatMap_nil, List.append_nil]
    · rintro _ _ ⟨rfl, s5, rfl⟩
      dsimp! []
      rw [show chosenN L (pre ++ [x]).length = (chosenN L pre.length).flatMap (nextC L) by rw [List.length_append]; rfl]
      exact ⟨rfl, _, _, _, rfl⟩
  · rintro _ _ ⟨rfl, s3, s4, s5, rfl⟩
    rw [List.length_range]
    dsimp! []
    exact ⟨rfl, rfl⟩
end Mir
set_option maxHeartbeats 4000000
namespace Mir
open PySem L2 MirCg
local macro_rules | `(tactic| dsimp! [$ls,*]) => `(tactic| simp only [ev_bindExc, ev_asg, ev_unTup, ev_unLst, ev_tupM, ev_gsCons, ev_gsNil, ev_raise, ev_tryL, ev_tryOk, ev_tryExc, ev_tryB, ev_tryBOk, ev_tryBExc, endS_rtE, endS_nxE, ev_kin, ev_kget, ev_index, eqD_int, neD_int, ek_fldI, fz_ties, fz_cells, fz_book, fz_rels, fz_rows, fz_size, ev_bind, ev_nox, ek_seq, k_nx, k_ct, k_bk, k_rt, bind_as, ev_set, ev_setOwn, ev_share, ev_drop, ev_ret, ev_retOwn, ev_skip, ev_brk, ev_cnt, ek_ifS, k_t, k_f, ev_frzS, ev_append, ev_setIx, ev_for, ev_lc, ev_seqOf, ev_range, ev_var, ev_c, ev_op, ev_un, ev_args, ev_nil, ev_cons, ev_frz, ev_b, ev_and, ev_or, ev_not, ev_andV, ev_orV, ev_notV, ev_if, ev_chain, ev_isi, ev_ixOwn, ev_lenOwn, ev_call, ev_callK, ev_sl, ev_part, ev_true, ev_nm, ev_toB, frz, frzAt, toSeq_tup, toSeq_pt, toSeq_lst, toSeq_cl, toRet, mWipe, kbG, Mir.gTup, Mir.gLst, List.getElem?_cons_zero, List.getElem?_cons_succ, List.set_cons_zero, List.set_cons_succ, List.length_cons, List.length_nil, List.append_nil, List.nil_append, List.cons_append, Nat.reduceAdd, Nat.reduceLeDiff, Nat.reduceEqDiff, Nat.zero_add, reduceIte, Bool.false_eq_true, Bool.not_true, Bool.not_false, and_self, sizeM_eq, ev_make, ev_isiC, ev_sortD, ev_key, ev_join, ev_shr, ev_disp, ev_dput, ev_tru, gTru, cz0, cz1, cz2, cz3, cz4, Nat.reduceLT, Int.reduceEq, Int.reduceLT, Int.reduceLE, Int.reduceAdd, decide_true, decide_false, eqD_int, neD_int, eqD_str, neD_str, _root_.eq_self, len_tup, len_pt, len_lst, len_cl, lenR, lenC, sqC, unpt_cel, addA_int, addA_tup, addA_lst, mulA_int, mul_int, sub_int, lt_int, le_int, gt_int, geA_int, neg_int, int_int, tuple_lst, tuple_tup, tupleP_lst, tupleP_pt, ev_asT, setS_obj, unpt_pt, unpt_tup, unpt_non, list_tup, list_lst, in_own, ev_lc2, ev_dget2, ev_dget1, ev_dsetd, ev_putE, ev_appE, ev_newD, ev_fldO, ev_fldPut, ev_makeO, ev_listRv, ev_while, ev_gs, ev_gs0, ev_seqB, ev_callO, ev_indexT, wp_ok, wp_def, lq_nx, lq_ct, lq_bk, lq_rt, rho0, List.map_cons, List.map_nil, List.replicate, Nat.sub_self, Nat.reduceSub, $ls,*])
theorem chosenN_iff {L : Nat} : ∀ {m : Nat} {s : List Nat}, s ∈ chosenN L m ↔ s.length = m ∧ s.Pairwise (· ≤ ·) ∧ ∀ k ∈ s, k < L
  | 0, s => by
    constructor
    · intro h
      have e : s = [] := by simpa [chosenN] using h
      subst e
      exact ⟨rfl, List.Pairwise.nil, fun k hk => by cases hk⟩
    · rintro ⟨h, _, _⟩
      rw [List.length_eq_zero_iff.mp h]
      exact List.mem_singleton.mpr rfl
  | m + 1, s => by
    constructor
    · intro h
      obtain ⟨t, ht, h2⟩ := List.mem_flatMap.mp h
      obtain ⟨r, hr, rfl⟩ := List.mem_map.mp h2
      obtain ⟨a, b, c⟩ := chosenN_iff.mp ht
      obtain ⟨r1, r2⟩ := List.mem_filter.mp hr
      have r1 := List.mem_range.mp r1
      refine ⟨by simp [a], ?_, fun k hk => ?_⟩
      · refine List.pairwise_append.mpr ⟨b, List.pairwise_singleton _ _, fun x hx y hy => ?_⟩
        rw [List.mem_singleton.mp hy]
        unfold chB at r2
        have ne : t ≠ [] := fun e => by subst e; cases hx
        rw [List.isEmpty_eq_false_iff.mpr ne, Bool.false_or, decide_eq_true_iff, List.getLastD_eq_getLast?, List.getLast?_eq_some_getLast ne] at r2
        have e := List.dropLast_concat_getLast ne
        rw [← e] at b hx
        rcases List.mem_append.mp hx with q | q
        · exact Nat.le_trans ((List.pairwise_append.mp b).2.2 x q _ (List.mem_singleton.mpr rfl)) r2
        · rw [List.mem_singleton.mp q]
          exact r2
      · rcases List.mem_append.mp hk with q | q
        · exact c k q
        · rw [List.mem_singleton.mp q]
          exact r1
    · rintro ⟨h1, h2, h3⟩
      have ne : s ≠ [] := fun e => by subst e; simp at h1
      have e := List.dropLast_concat_getLast ne
      rw [← e] at h1 h2 h3 ⊢
      generalize s.dropLast = t at *
      generalize s.getLast ne = r at *
      obtain ⟨p1, _, p3⟩ := List.pairwise_append.mp h2
      refine List.mem_flatMap.mpr ⟨t, chosenN_iff.mpr ⟨by simpa using h1, p1, fun k hk => h3 k (List.mem_append_left _ hk)⟩, List.mem_map.mpr ⟨r, List.mem_filter.mpr ⟨List.mem_range.mpr (h3 r (by simp)), ?_⟩, rfl⟩⟩
      unfold chB
      by_cases q : t = []
      · subst q; rfl
      · rw [List.isEmpty_eq_false_iff.mpr q, Bool.false_or, decide_eq_true_iff, List.getLastD_eq_getLast?, List.getLast?_eq_some_getLast q]
        exact p3 _ (List.getLast_mem q) r (List.mem_singleton.mpr rfl)
/-- the rows of some numbers -/
def pickN (rs : List (List Int)) (s : List Nat) : List (List Int) := s.map fun k => rs.getD k []
theorem pick_tu {n m : Nat} {rs : List (List Int)} (hr : RowsN n rs) {s : List Nat} (h : s ∈ chosenN rs.length m) : Tu n m (pickN rs s) ∧ ∀ r ∈ pickN rs s, r ∈ rs := by
  obtain ⟨a, b⟩ := chosenN_mem h
  have key : ∀ r ∈ pickN rs s, r ∈ rs := fun r hr => by
    obtain ⟨k, hk, rfl⟩ := List.mem_map.mp hr
    have := b k hk
    rw [List.getD_eq_getElem?_getD, List.getElem?_eq_getElem this]
    exact List.getElem_mem this
  exact ⟨⟨by unfold pickN; rw [List.length_map, a], fun r hr' => hr r (key r hr')⟩, key⟩
theorem pick_app {rs ms : List (List Int)} {s : List Nat} (h : ∀ k ∈ s, k < rs.length) : pickN (rs ++ ms) s = pickN rs s := by
  unfold pickN
  refine List.map_congr_left fun k hk => ?_
  rw [List.getD_eq_getElem?_getD, List.getElem?_append_left (h k hk), ← List.getD_eq_getElem?_getD]
/-- what comes of rows by a table lies in every set that .. -/
def GenBy (tb : List Int) (n m : Nat) (rs : List (List Int)) (r : List Int) : Prop := ∀ P : List Int → Prop, (∀ r ∈ rs, P r) → (∀ t, Tu n m t → (∀ r ∈ t, P r) → P (madeN tb t n)) → P r
structure ClOk (n m : Nat) (tb : List Int) (rs fs : List (List Int)) : Prop where
  pre : rs <+: fs
  rows : RowsN n fs
  nd : fs.Nodup
  gen : ∀ r ∈ fs, GenBy tb n m rs r
  cl : ∀ s ∈ chosenN fs.length m, madeN tb (pickN fs s) n ∈ fs
structure ClPart (n m : Nat) (tb : List Int) (rs fs : List (List Int)) (known turn : Nat) : Prop where
  pre : rs <+: fs
  rows : RowsN n fs
  nd : fs.Nodup
  gen : ∀ r ∈ fs, GenBy tb n m rs r
  kn : known ≤ fs.length
  old : ∀ s ∈ chosenN known m, madeN tb (pickN fs s) n ∈ fs
  long : rs.length + turn ≤ fs.length
structure ClMore (n m : Nat) (tb : List Int) (rs fs ms : List (List Int)) (known : Nat) (done : List (List Nat)) : Prop where
  rows : RowsN n ms
  nd : (fs ++ ms).Nodup
  gen : ∀ r ∈ ms, GenBy tb n m rs r
  new : ∀ s ∈ done, known ≤ s.getLastD 0 → madeN tb (pickN fs s) n ∈ fs ++ ms
theorem ClPart.few {n m : Nat} {tb : List Int} {rs fs : List (List Int)} {known turn : Nat} (h : ClPart n m tb rs fs known turn) (hn : n ≤ 4) : fs.length ≤ 16 := by
  have a := nodup_len fs (rowsE n) h.nd fun x hx => mem_rowsE (h.rows x hx).1 (h.rows x hx).2
  rw [every_len] at a
  exact Nat.le_trans a (Nat.pow_le_pow_right (by omega) hn)
theorem ClMore.few {n m : Nat} {tb : List Int} {rs fs ms : List (List Int)} {known : Nat} {done : List (List Nat)} (h : ClMore n m tb rs fs ms known done) (hf : RowsN n fs) (hn : n ≤ 4) : fs.length + ms.length ≤ 16 := by
  have a := nodup_len (fs ++ ms) (rowsE n) h.nd fun x hx => by
    rcases List.mem_append.mp hx with q | q
    · exact mem_rowsE (hf x q).1 (hf x q).2
    · exact mem_rowsE (h.rows x q).1 (h.rows x q).2
  rw [every_len, List.length_append] at a
  exact Nat.le_trans a (Nat.pow_le_pow_right (by omega) hn)
theorem last_le {m : Nat} (h1 : 1 ≤ m) {L : Nat} {s : List Nat} (h : s ∈ chosenN L m) : ∃ t, s = t ++ [s.getLastD 0] ∧ ∀ k ∈ s, k ≤ s.getLastD 0 := by
  obtain ⟨a, b, c⟩ := chosenN_iff.mp h
  have ne : s ≠ [] := fun e => by subst e; simp at a; omega
  have e := List.dropLast_concat_getLast ne
  have e2 : s.getLastD 0 = s.getLast ne := by rw [List.getLastD_eq_getLast?, List.getLast?_eq_some_getLast ne]; rfl
  rw [e2]
  refine ⟨s.dropLast, e.symm, fun k hk => ?_⟩
  rw [← e] at b hk
  rcases List.mem_append.mp hk with q | q
  · exact (List.pairwise_append.mp b).2.2 k q _ (List.mem_singleton.mpr rfl)
  · rw [List.mem_singleton.mp q]
    exact Nat.le_refl _
theorem ClMore.done {n m : Nat} (h1 : 1 ≤ m) {tb : List Int} {rs fs ms : List (List Int)} {known turn : Nat} (p : ClPart n m tb rs fs known turn) (h : ClMore n m tb rs fs ms known (chosenN fs.length m)) :
    ∀ s ∈ chosenN fs.length m, madeN tb (pickN (fs ++ ms) s) n ∈ fs ++ ms := fun s hs => by
  rw [pick_app (chosenN_mem hs).2]
  by_cases q : known ≤ s.getLastD 0
  · exact h.new s hs q
  · obtain ⟨_, _, hl⟩ := last_le h1 hs
    obtain ⟨a, b, c⟩ := chosenN_iff.mp hs
    exact List.mem_append_left _ (p.old s (chosenN_iff.mpr ⟨a, b, fun k hk => by have := hl k hk; omega⟩))
theorem ix_last {s t : List Nat} {k : Nat} (e : s = t ++ [k]) (S : Store) : gIx (idxP s) (.int (-1)) S = .ok (natP k) S := by
  subst e
  unfold idxP
  rw [ix_t, List.map_append, List.map_cons, List.map_nil, at_last]
theorem pick_lc {n : Nat} {fs : List (List Int)} {s : List Nat} (h : ∀ k ∈ s, k < fs.length) {ρ : Rho} {S : Store} (h2 : ∀ k, (mVar 2) (ρ.set 9 (.val (natP k))) S = .ok (.lst (fs.map rowP)) S) (h9 : ∀ k, (mVar 9) (ρ.set 9 (.val (natP k))) S = .ok (natP k) S) :
    mLcGo (gNm 9) mTrue (mOp gIx (mVar 2) (mVar 9)) ρ (s.map natP) S = .ok ((pickN fs s).map rowP) S := by
  have lc := lc_mapL (g := gNm 9) (t := mTrue) (a := mOp gIx (mVar 2) (mVar 9)) (ρ := ρ) (S := S) natP (fun k => rowP (fs.getD k [])) (ps := s) fun k hk => by
    refine ⟨_, rfl, rfl, ?_⟩
    have e : gIx (.lst (fs.map rowP)) (natP k) S = .ok (rowP (fs.getD k [])) S := by
      unfold natP
      rw [ix_l, at_map rowP (List.getElem?_eq_getElem (h k hk)), List.getD_eq_getElem?_getD, List.getElem?_eq_getElem (h k hk)]
      rfl
    rw [ev_op, h2, ev_bind, h9, ev_bind, e]
  rw [lc]
  unfold pickN
  rw [List.map_map]
  rfl
end Mir
set_option maxHeartbeats 4000000
namespace Mir
open PySem L2 MirCg
local macro_rules | `(tactic| dsimp! [$ls,*]) => `(tactic| simp only [ev_bindExc, ev_asg, ev_unTup, ev_unLst, ev_tupM, ev_gsCons, ev_gsNil, ev_raise, ev_tryL, ev_tryOk, ev_tryExc, ev_tryB, ev_tryBOk, ev_tryBExc, endS_rtE, endS_nxE, ev_kin, ev_kget, ev_index, eqD_int, neD_int, ek_fldI, fz_ties, fz_cells, fz_book, fz_rels, fz_rows, fz_size, ev_bind, ev_nox, ek_seq, k_nx, k_ct, k_bk, k_rt, bind_as, ev_set, ev_setOwn, ev_share, ev_drop, ev_ret, ev_retOwn, ev_skip, ev_brk, ev_cnt, ek_ifS, k_t, k_f, ev_frzS, ev_append, ev_setIx, ev_for, ev_lc, ev_seqOf, ev_range, ev_var, ev_c, ev_op, ev_un, ev_args, ev_nil, ev_cons, ev_frz, ev_b, ev_and, ev_or, ev_not, ev_andV, ev_orV, ev_notV, ev_if, ev_chain, ev_isi, ev_ixOwn, ev_lenOwn, ev_call, ev_callK, ev_sl, ev_part, ev_true, ev_nm, ev_toB, frz, frzAt, toSeq_tup, toSeq_pt, toSeq_lst, toSeq_cl, toRet, mWipe, kbG, Mir.gTup, Mir.gLst, List.getElem?_cons_zero, List.getElem?_cons_succ, List.set_cons_zero, List.set_cons_succ, List.length_cons, List.length_nil, List.append_nil, List.nil_append, List.cons_append, Nat.reduceAdd, Nat.reduceLeDiff, Nat.reduceEqDiff, Nat.zero_add, reduceIte, Bool.false_eq_true, Bool.not_true, Bool.not_false, and_self, sizeM_eq, ev_make, ev_isiC, ev_sortD, ev_key, ev_join, ev_shr, ev_disp, ev_dput, ev_tru, gTru, cz0, cz1, cz2, cz3, cz4, Nat.reduceLT, Int.reduceEq, Int.reduceLT, Int.reduceLE, Int.reduceAdd, decide_true, decide_false, eqD_int, neD_int, eqD_str, neD_str, _root_.eq_self, len_tup, len_pt, len_lst, len_cl, lenR, lenC, sqC, unpt_cel, addA_int, addA_tup, addA_lst, mulA_int, mul_int, sub_int, lt_int, le_int, gt_int, geA_int, neg_int, int_int, tuple_lst, tuple_tup, tupleP_lst, tupleP_pt, ev_asT, setS_obj, unpt_pt, unpt_tup, unpt_non, list_tup, list_lst, in_own, ev_lc2, ev_dget2, ev_dget1, ev_dsetd, ev_putE, ev_appE, ev_newD, ev_fldO, ev_fldPut, ev_makeO, ev_listRv, ev_while, ev_gs, ev_gs0, ev_seqB, ev_callO, ev_indexT, wp_ok, wp_def, lq_nx, lq_ct, lq_bk, lq_rt, rho0, List.map_cons, List.map_nil, List.replicate, Nat.sub_self, Nat.reduceSub, $ls,*])
theorem fclosedT_ok {n m : Nat} (hn1 : 1 ≤ n) (hn : n ≤ 4) (h1 : 1 ≤ m) (h3 : m ≤ 3) {tb : List Int} (hT : TabM m tb) {rs : List (List Int)} (hr : RowsN n rs) (hd : rs.Nodup) (hne : rs ≠ []) (S : Store) :
    ∃ fs, ClOk n m tb rs fs ∧ Mf__law_closed [.tup (rs.map rowP), rowP tb] S = .ok (.lst (fs.map rowP)) S := by
  have key : Wp (Mf__law_closed [.tup (rs.map rowP), rowP tb] S) fun v T => Eqs S T ∧ ∃ fs, ClOk n m tb rs fs ∧ v = .lst (fs.map rowP) := by
    obtain ⟨r0, rr, rfl⟩ : ∃ a b, rs = a :: b := by
      cases rs with
      | nil => exact absurd rfl hne
      | cons a b => exact ⟨a, b, rfl⟩
    have l0 := (hr r0 (by simp)).1
    have x0 : ∀ S, gIx (.tup ((r0 :: rr).map rowP)) (.int 0) S = .ok (rowP r0) S := fun S => by rw [ix_t, List.map_cons, at0]
    have ev := fun S => every_q (n := n) (by omega) S
    have r16 : ∀ S, gRange1 [.int 16] S = .ok ((List.range 16).map natP) S := fun S => rngN (n := 16) (by omega) S
    have e2n : ((rowsE n).length : Int) = ((2 ^ n : Nat) : Int) := by rw [every_len]
    unfold Mf__law_closed Bf__law_closed
    generalize hrs : r0 :: rr = rs at *
    dsimp! [x0, l0, ev, List.length_map, every_len, r16]
    refine wp_for (fun pre ρ T => Eqs S T ∧ ∃ fs known s5 s6 s7 s8, ClPart n m tb rs fs known pre.length ∧ ρ = [.val (.tup (rs.map rowP)), .val (rowP tb), .val (.lst (fs.map rowP)), .val (.int (known : Nat)), .val (.int ((2 ^ n : Nat) : Int)), s5, s6, s7, s8, .none]) ⟨rfl, rs, 0, _, _, _, _, ⟨List.prefix_refl _, hr, hd, fun r h P a _ => a r h, Nat.zero_le _, fun s hs => ?_, Nat.le_refl _⟩, rfl⟩ ?_ ?_
    · have := chosenN_mem hs
      cases s with
      | nil => simp at this; omega
      | cons k s => have := this.2 k (by simp); omega
    · rintro pre x post _ _ ex ⟨rfl, fs, known, s5, s6, s7, s8, cp, rfl⟩
      have few := cp.few hn
      have rg : ∀ S, gRange1 [.int (fs.length : Nat)] S = .ok (rng fs.length) S := fun S => rngN (by omega) S
      have lcr : ∀ ρ : Rho, (∀ k, (mVar 9) (ρ.set 9 (.val (natP k))) S = .ok (natP k) S) → mLcGo (gNm 9) mTrue (mVar 9) ρ (rng fs.length) S = .ok (rng fs.length) S := fun ρ h => by
        rw [rng_nat]
        exact lc_mapL natP natP fun k _ => ⟨_, rfl, rfl, h k⟩
      have lcr' := fun s5 s6 s7 s8 => lcr [.val (.tup (rs.map rowP)), .val (rowP tb), .val (.lst (fs.map rowP)), .val (.int (known : Nat)), .val (.int ((2 ^ n : Nat) : Int)), s5, s6, s7, s8, .none] fun k => rfl
      have ch := fun S => fchosen_ok (L := fs.length) few h1 h3 hT.1 S
      have zl : (rng fs.length).length ≤ 100000 := by rw [rngN_len]; omega
      dsimp! [List.length_map, rg, lcr', zl, ch]
      refine wp_for (F := idxP) (ps := chosenN fs.length m) (fun dn ρ T => Eqs S T ∧ ∃ ms s7 s8, ClMore n m tb rs fs ms known dn ∧ ρ = [.val (.tup (rs.map rowP)), .val (rowP tb), .val (.lst (fs.map rowP)), .val (.int (known : Nat)), .val (.int ((2 ^ n : Nat) : Int)), .val (natP x), .own (.lst (ms.map rowP)), s7, s8, .none]) ⟨rfl, [], _, _, ⟨fun r h => (nomatch h), (by rw [List.append_nil]; exact cp.nd), fun r h => (nomatch h), fun s h => (nomatch h)⟩, rfl⟩ ?_ ?_
      · rintro dn s po _ _ ex2 ⟨rfl, ms, s7, s8, cm, rfl⟩
        have hs : s ∈ chosenN fs.length m := by rw [ex2]; simp
        obtain ⟨t, et, hl⟩ := last_le h1 hs
        have il := ix_last et
        obtain ⟨tu, ti⟩ := pick_tu cp.rows hs
        have sl := (chosenN_mem hs).1
        dsimp! [il]
        unfold natP
        dsimp! []
        by_cases q : (known : Int) ≤ (s.getLastD 0 : Nat)
        · have lcp := fun s7 s8 => pick_lc (n := n) (chosenN_mem hs).2 (S := S) (ρ := [.val (.tup (rs.map rowP)), .val (rowP tb), .val (.lst (fs.map rowP)), .val (.int (known : Nat)), .val (.int ((2 ^ n : Nat) : Int)), .val (natP x), .own (.lst (ms.map rowP)), s7, s8, .none]) (fun k => rfl) fun k => rfl
          have mk := fun S => fmade_ok (n := n) (by omega) h1 h3 hT tu S
          have i1 := fun S => in_rows (RowsV.lst (rs := fs)) true (madeN tb (pickN fs s) n) S
          have i2 := fun S => in_rows (RowsV.lst (rs := ms)) true (madeN tb (pickN fs s) n) S
          have mf := cm.few cp.rows hn
          obtain ⟨mr1, mr2⟩ := madeN_ok (m := m) hT.2 (pickN fs s) n
          simp only [if_true] at i1 i2
          have sq : toSeq (idxP s) S = .ok (s.map natP) S := rfl
          unfold natP at lcp sq
          dsimp! [q, decide_true, sq, List.length_map, show s.length ≤ 100000 by omega, lcp, mk, i1]
          by_cases q1 : madeN tb (pickN fs s) n ∈ fs
          · dsimp! [q1, decide_true]
            exact ⟨rfl, ms, _, _, ⟨cm.rows, cm.nd, cm.gen, fun s' hs' hk => by
              rcases List.mem_append.mp hs' with a | a
              · exact cm.new s' a hk
              · rw [List.mem_singleton.mp a]
                exact List.mem_append_left _ q1⟩, rfl⟩
          · by_cases q2 : madeN tb (pickN fs s) n ∈ ms
            · dsimp! [q1, q2, decide_true, decide_false, i2]
              exact ⟨rfl, ms, _, _, ⟨cm.rows, cm.nd, cm.gen, fun s' hs' hk => by
                rcases List.mem_append.mp hs' with a | a
                · exact cm.new s' a hk
                · rw [List.mem_singleton.mp a]
                  exact List.mem_append_right _ q2⟩, rfl⟩
            · dsimp! [q1, q2, decide_false, i2, List.length_map, show ms.length < 100000 by omega]
              refine ⟨rfl, ms ++ [madeN tb (pickN fs s) n], _, _, ⟨fun r hr' => ?_, ?_, fun r hr' => ?_, fun s' hs' hk => ?_⟩, by rw [List.map_append]; rfl⟩
              · rcases List.mem_append.mp hr' with a | a
                · exact cm.rows r a
                · rw [List.mem_singleton.mp a]; exact ⟨mr1, mr2⟩
              · rw [← List.append_assoc]
                refine List.nodup_append.mpr ⟨cm.nd, List.nodup_cons.mpr ⟨by simp, List.nodup_nil⟩, fun a ha b hb e => ?_⟩
                rw [List.mem_singleton.mp hb] at e
                subst e
                rcases List.mem_append.mp ha with z | z
                · exact q1 z
                · exact q2 z
              · rcases List.mem_append.mp hr' with a | a
                · exact cm.gen r a
                · rw [List.mem_singleton.mp a]
                  exact fun P p1 p2 => p2 _ tu fun r hr' => cp.gen r (ti r hr') P p1 p2
              · rw [← List.append_assoc]
                rcases List.mem_append.mp hs' with a | a
                · exact List.mem_append_left _ (cm.new s' a hk)
                · rw [List.mem_singleton.mp a]
                  simp
        · dsimp! [q, decide_false]
          exact ⟨rfl, ms, _, _, ⟨cm.rows, cm.nd, cm.gen, fun s' hs' hk => by
            rcases List.mem_append.mp hs' with a | a
            · exact cm.new s' a hk
            · rw [List.mem_singleton.mp a] at hk
              omega⟩, rfl⟩
      · rintro _ _ ⟨rfl, ms, s7, s8, cm, rfl⟩
        have mf := cm.few cp.rows hn
        have dn := cm.done h1 cp
        have rows2 : RowsN n (fs ++ ms) := fun r hr' => by
          rcases List.mem_append.mp hr' with a | a
          · exact cp.rows r a
          · exact cm.rows r a
        have gen2 : ∀ r ∈ fs ++ ms, GenBy tb n m rs r := fun r hr' => by
          rcases List.mem_append.mp hr' with a | a
          · exact cp.gen r a
          · exact cm.gen r a
        have pre2 : rs <+: fs ++ ms := cp.pre.trans (List.prefix_append _ _)
        dsimp! [List.length_map, List.length_append, show fs.length + ms.length ≤ 100000 by omega, eqD_int]
        by_cases q1 : ms = []
        · subst q1
          dsimp! []
          refine ⟨rfl, fs, ⟨cp.pre, cp.rows, cp.nd, cp.gen, ?_⟩, rfl⟩
          simpa using dn
        · have p1 := List.length_pos_iff.mpr q1
          have d1 : decide ((ms.length : Int) = 0) = false := decide_eq_false (by omega)
          by_cases q2 : fs.length + ms.length = 2 ^ n
          · have d2 : decide (((fs.length + ms.length : Nat) : Int) = ((2 ^ n : Nat) : Int)) = true := decide_eq_true (by rw [q2])
            dsimp! [d1, d2]
            refine ⟨rfl, fs ++ ms, ⟨pre2, rows2, cm.nd, gen2, fun s hs => ?_⟩, by rw [List.map_append]⟩
            obtain ⟨m1, m2⟩ := madeN_ok (m := m) hT.2 (pickN (fs ++ ms) s) n
            refine Classical.byContradiction fun no => ?_
            have a := nodup_len (madeN tb (pickN (fs ++ ms) s) n :: (fs ++ ms)) (rowsE n) (List.nodup_cons.mpr ⟨no, cm.nd⟩) fun x hx => by
              rcases List.mem_cons.mp hx with e | e
              · rw [e]; exact mem_rowsE m1 m2
              · exact mem_rowsE (rows2 x e).1 (rows2 x e).2
            rw [every_len, List.length_cons, List.length_append] at a
            omega
          · have d2 : decide (((fs.length + ms.length : Nat) : Int) = ((2 ^ n : Nat) : Int)) = false := decide_eq_false (by omega)
            dsimp! [d1, d2]
            refine ⟨rfl, fs ++ ms, fs.length, _, _, _, _, ⟨pre2, rows2, cm.nd, gen2, by rw [List.length_append]; omega, dn, ?_⟩, by rw [List.map_append]⟩
            have := cp.long
            simp only [List.length_append, List.length_cons, List.length_nil]
            omega
    · rintro _ _ ⟨rfl, fs, known, s5, s6, s7, s8, cp, rfl⟩
      have a := cp.few hn
      have b := cp.long
      have c : 1 ≤ rs.length := by rw [← hrs]; simp
      rw [List.length_range] at b
      omega
  obtain ⟨v, T, e, rfl, fs, h, rfl⟩ := key
  exact ⟨fs, h, e⟩
end Mir
set_option maxHeartbeats 4000000
namespace Mir
open PySem L2 MirCg
local macro_rules | `(tactic| dsimp! [$ls,*]) => `(tactic| simp only [ev_bindExc, ev_asg, ev_unTup, ev_unLst, ev_tupM, ev_gsCons, ev_gsNil, ev_raise, ev_tryL, ev_tryOk, ev_tryExc, ev_tryB, ev_tryBOk, ev_tryBExc, endS_rtE, endS_nxE, ev_kin, ev_kget, ev_index, eqD_int, neD_int, ek_fldI, fz_ties, fz_cells, fz_book, fz_rels, fz_rows, fz_size, ev_bind, ev_nox, ek_seq, k_nx, k_ct, k_bk, k_rt, bind_as, ev_set, ev_setOwn, ev_share, ev_drop, ev_ret, ev_retOwn, ev_skip, ev_brk, ev_cnt, ek_ifS, k_t, k_f, ev_frzS, ev_append, ev_setIx, ev_for, ev_lc, ev_seqOf, ev_range, ev_var, ev_c, ev_op, ev_un, ev_args, ev_nil, ev_cons, ev_frz, ev_b, ev_and, ev_or, ev_not, ev_andV, ev_orV, ev_notV, ev_if, ev_chain, ev_isi, ev_ixOwn, ev_lenOwn, ev_call, ev_callK, ev_sl, ev_part, ev_true, ev_nm, ev_toB, frz, frzAt, toSeq_tup, toSeq_pt, toSeq_lst, toSeq_cl, toRet, mWipe, kbG, Mir.gTup, Mir.gLst, List.getElem?_cons_zero, List.getElem?_cons_succ, List.set_cons_zero, List.set_cons_succ, List.length_cons, List.length_nil, List.append_nil, List.nil_append, List.cons_append, Nat.reduceAdd, Nat.reduceLeDiff, Nat.reduceEqDiff, Nat.zero_add, reduceIte, Bool.false_eq_true, Bool.not_true, Bool.not_false, and_self, sizeM_eq, ev_make, ev_isiC, ev_sortD, ev_key, ev_join, ev_shr, ev_disp, ev_dput, ev_tru, gTru, cz0, cz1, cz2, cz3, cz4, Nat.reduceLT, Int.reduceEq, Int.reduceLT, Int.reduceLE, Int.reduceAdd, decide_true, decide_false, eqD_int, neD_int, eqD_str, neD_str, _root_.eq_self, len_tup, len_pt, len_lst, len_cl, lenR, lenC, sqC, unpt_cel, addA_int, addA_tup, addA_lst, mulA_int, mul_int, sub_int, lt_int, le_int, gt_int, geA_int, neg_int, int_int, tuple_lst, tuple_tup, tupleP_lst, tupleP_pt, ev_asT, setS_obj, unpt_pt, unpt_tup, unpt_non, list_tup, list_lst, in_own, ev_lc2, ev_dget2, ev_dget1, ev_dsetd, ev_putE, ev_appE, ev_newD, ev_fldO, ev_fldPut, ev_makeO, ev_listRv, ev_while, ev_gs, ev_gs0, ev_seqB, ev_callO, ev_indexT, wp_ok, wp_def, lq_nx, lq_ct, lq_bk, lq_rt, rho0, List.map_cons, List.map_nil, List.replicate, Nat.sub_self, Nat.reduceSub, $ls,*])
/-- what a draw gives -/
theorem take_w {S R : Store} {many : Nat} (h : Hand S R) (hm : 0 < many) : Wp (Mq__law_take [.obj 0, .int many] S) fun v T => ∃ k : Nat, v = natP k ∧ k < many ∧ Hand T R := by
  obtain ⟨v, S', e, h', v0, v1⟩ := takeq h (many := many) (by omega)
  obtain ⟨k, rfl, hk⟩ := nat_of v0 v1
  exact ⟨_, S', e, k, rfl, hk, h'⟩
/-- an item of a short list, by a draw -/
theorem pick_ix {xs : List PV} {k : Nat} (h : k < xs.length) (S : Store) : gIx (.lst xs) (natP k) S = .ok xs[k] S := by
  unfold natP
  rw [ix_l]
  have : atI xs (k : Int) = some xs[k] := by
    obtain ⟨hi, e⟩ := atI_ok (xs := xs) (i := k) (by omega) (by omega)
    rw [e]
    simp
  rw [this]
theorem rowsE_nd (n : Nat) (h : n ≤ 4) : (rowsE n).Nodup := by
  have a := rowsE_asc h
  exact List.Pairwise.imp (fun {q r} (hl : TS.code 1000000 q < TS.code 1000000 r) (e : q = r) => by subst e; omega) a
end Mir
set_option maxHeartbeats 4000000
namespace Mir
open PySem L2 MirCg
local macro_rules | `(tactic| dsimp! [$ls,*]) => `(tactic| simp only [ev_bindExc, ev_asg, ev_unTup, ev_unLst, ev_tupM, ev_gsCons, ev_gsNil, ev_raise, ev_tryL, ev_tryOk, ev_tryExc, ev_tryB, ev_tryBOk, ev_tryBExc, endS_rtE, endS_nxE, ev_kin, ev_kget, ev_index, eqD_int, neD_int, ek_fldI, fz_ties, fz_cells, fz_book, fz_rels, fz_rows, fz_size, ev_bind, ev_nox, ek_seq, k_nx, k_ct, k_bk, k_rt, bind_as, ev_set, ev_setOwn, ev_share, ev_drop, ev_ret, ev_retOwn, ev_skip, ev_brk, ev_cnt, ek_ifS, k_t, k_f, ev_frzS, ev_append, ev_setIx, ev_for, ev_lc, ev_seqOf, ev_range, ev_var, ev_c, ev_op, ev_un, ev_args, ev_nil, ev_cons, ev_frz, ev_b, ev_and, ev_or, ev_not, ev_andV, ev_orV, ev_notV, ev_if, ev_chain, ev_isi, ev_ixOwn, ev_lenOwn, ev_call, ev_callK, ev_sl, ev_part, ev_true, ev_nm, ev_toB, frz, frzAt, toSeq_tup, toSeq_pt, toSeq_lst, toSeq_cl, toRet, mWipe, kbG, Mir.gTup, Mir.gLst, List.getElem?_cons_zero, List.getElem?_cons_succ, List.set_cons_zero, List.set_cons_succ, List.length_cons, List.length_nil, List.append_nil, List.nil_append, List.cons_append, Nat.reduceAdd, Nat.reduceLeDiff, Nat.reduceEqDiff, Nat.zero_add, reduceIte, Bool.false_eq_true, Bool.not_true, Bool.not_false, and_self, sizeM_eq, ev_make, ev_isiC, ev_sortD, ev_key, ev_join, ev_shr, ev_disp, ev_dput, ev_tru, gTru, cz0, cz1, cz2, cz3, cz4, Nat.reduceLT, Int.reduceEq, Int.reduceLT, Int.reduceLE, Int.reduceAdd, decide_true, decide_false, eqD_int, neD_int, eqD_str, neD_str, _root_.eq_self, len_tup, len_pt, len_lst, len_cl, lenR, lenC, sqC, unpt_cel, addA_int, addA_tup, addA_lst, mulA_int, mul_int, sub_int, lt_int, le_int, gt_int, geA_int, neg_int, int_int, tuple_lst, tuple_tup, tupleP_lst, tupleP_pt, ev_asT, setS_obj, unpt_pt, unpt_tup, unpt_non, list_tup, list_lst, in_own, ev_lc2, ev_dget2, ev_dget1, ev_dsetd, ev_putE, ev_appE, ev_newD, ev_fldO, ev_fldPut, ev_makeO, ev_listRv, ev_while, ev_gs, ev_gs0, ev_seqB, ev_callO, ev_indexT, wp_ok, wp_def, lq_nx, lq_ct, lq_bk, lq_rt, rho0, List.map_cons, List.map_nil, List.replicate, Nat.sub_self, Nat.reduceSub, $ls,*])
end Mir
set_option maxHeartbeats 4000000
namespace Mir
open PySem L2 MirCg
local macro_rules | `(tactic| dsimp! [$ls,*]) => `(tactic| simp only [ev_bindExc, ev_asg, ev_unTup, ev_unLst, ev_tupM, ev_gsCons, ev_gsNil, ev_raise, ev_tryL, ev_tryOk, ev_tryExc, ev_tryB, ev_tryBOk, ev_tryBExc, endS_rtE, endS_nxE, ev_kin, ev_kget, ev_index, eqD_int, neD_int, ek_fldI, fz_ties, fz_cells, fz_book, fz_rels, fz_rows, fz_size, ev_bind, ev_nox, ek_seq, k_nx, k_ct, k_bk, k_rt, bind_as, ev_set, ev_setOwn, ev_share, ev_drop, ev_ret, ev_retOwn, ev_skip, ev_brk, ev_cnt, ek_ifS, k_t, k_f, ev_frzS, ev_append, ev_setIx, ev_for, ev_lc, ev_seqOf, ev_range, ev_var, ev_c, ev_op, ev_un, ev_args, ev_nil, ev_cons, ev_frz, ev_b, ev_and, ev_or, ev_not, ev_andV, ev_orV, ev_notV, ev_if, ev_chain, ev_isi, ev_ixOwn, ev_lenOwn, ev_call, ev_callK, ev_sl, ev_part, ev_true, ev_nm, ev_toB, frz, frzAt, toSeq_tup, toSeq_pt, toSeq_lst, toSeq_cl, toRet, mWipe, kbG, Mir.gTup, Mir.gLst, List.getElem?_cons_zero, List.getElem?_cons_succ, List.set_cons_zero, List.set_cons_succ, List.length_cons, List.length_nil, List.append_nil, List.nil_append, List.cons_append, Nat.reduceAdd, Nat.reduceLeDiff, Nat.reduceEqDiff, Nat.zero_add, reduceIte, Bool.false_eq_true, Bool.not_true, Bool.not_false, and_self, sizeM_eq, ev_make, ev_isiC, ev_sortD, ev_key, ev_join, ev_shr, ev_disp, ev_dput, ev_tru, gTru, cz0, cz1, cz2, cz3, cz4, Nat.reduceLT, Int.reduceEq, Int.reduceLT, Int.reduceLE, Int.reduceAdd, decide_true, decide_false, eqD_int, neD_int, eqD_str, neD_str, _root_.eq_self, len_tup, len_pt, len_lst, len_cl, lenR, lenC, sqC, unpt_cel, addA_int, addA_tup, addA_lst, mulA_int, mul_int, sub_int, lt_int, le_int, gt_int, geA_int, neg_int, int_int, tuple_lst, tuple_tup, tupleP_lst, tupleP_pt, ev_asT, setS_obj, unpt_pt, unpt_tup, unpt_non, list_tup, list_lst, in_own, ev_lc2, ev_dget2, ev_dget1, ev_dsetd, ev_putE, ev_appE, ev_newD, ev_fldO, ev_fldPut, ev_makeO, ev_listRv, ev_while, ev_gs, ev_gs0, ev_seqB, ev_callO, ev_indexT, wp_ok, wp_def, lq_nx, lq_ct, lq_bk, lq_rt, rho0, List.map_cons, List.map_nil, List.replicate, Nat.sub_self, Nat.reduceSub, $ls,*])
theorem isi_tup' {xs : List PV} {S : Store} : gIsi "tuple" (.tup xs) S = .ok (.bl true) S := nrfl rfl
end Mir
set_option maxHeartbeats 4000000
namespace Mir
open PySem L2 MirCg
abbrev Fx := List (Int × Int)
def getF (f : Fx) (c : Int) : Option Int := (f.find? fun p => decide (p.1 = c)).map Prod.snd
def putF (f : Fx) (c v : Int) : Fx := if (f.any fun p => decide (p.1 = c)) = true then f.map fun p => if p.1 = c then (p.1, v) else p else f ++ [(c, v)]
theorem get_any (f : Fx) (c : Int) : (f.any fun p => decide (p.1 = c)) = (getF f c).isSome := by
  unfold getF
  rw [Option.isSome_map]
  induction f with
  | nil => rfl
  | cons p f ih =>
    rw [List.any_cons, List.find?_cons, ih]
    cases decide (p.1 = c) <;> rfl
def updG (g : Int → Option Int) (c v : Int) : Int → Option Int := fun d => if d = c then some v else g d
theorem get_put (f : Fx) (c v : Int) : getF (putF f c v) = updG (getF f) c v := by
  funext d
  unfold updG putF
  by_cases h : (f.any fun p => decide (p.1 = c)) = true
  · rw [if_pos h]
    have key : ∀ l : Fx, (getF (l.map fun p => if p.1 = c then (p.1, v) else p) d) = if d = c then (getF l c).map (fun _ => v) else getF l d := by
      intro l
      induction l with
      | nil => by_cases q : d = c <;> simp [q, getF]
      | cons p l ih =>
        rw [List.map_cons]
        by_cases q1 : p.1 = c
        · rw [if_pos q1]
          by_cases q2 : d = c
          · subst q2
            simp [getF, q1]
          · rw [if_neg q2]
            rw [if_neg q2] at ih
            unfold getF at ih ⊢
            rw [List.find?_cons, List.find?_cons]
            simp only [show decide (p.1 = d) = false from decide_eq_false (fun e => q2 (by rw [← e, q1]))]
            exact ih
        · rw [if_neg q1]
          by_cases q2 : d = c
          · subst q2
            rw [if_pos rfl] at ih ⊢
            unfold getF at ih ⊢
            rw [List.find?_cons, List.find?_cons]
            simp only [show decide (p.1 = d) = false from decide_eq_false q1]
            exact ih
          · rw [if_neg q2] at ih ⊢
            unfold getF at ih ⊢
            rw [List.find?_cons, List.find?_cons]
            cases q3 : decide (p.1 = d) with
            | true => rfl
            | false => exact ih
    rw [key]
    by_cases q : d = c
    · rw [if_pos q, if_pos q]
      rw [get_any] at h
      obtain ⟨w, hw⟩ := Option.isSome_iff_exists.mp h
      rw [hw]
      rfl
    · rw [if_neg q, if_neg q]
  · rw [if_neg h]
    unfold getF
    rw [List.find?_append]
    rw [get_any] at h
    have h : getF f c = none := by
      cases q : getF f c with
      | none => rfl
      | some w => rw [q] at h; exact absurd rfl h
    by_cases q : d = c
    · subst q
      unfold getF at h
      rw [Option.map_eq_none_iff] at h
      rw [h, if_pos rfl]
      simp
    · rw [if_neg q]
      have : List.find? (fun p : Int × Int => decide (p.1 = d)) [(c, v)] = none := by
        rw [List.find?_cons]
        simp [Ne.symm q]
      rw [this, Option.or_none]
def fitZ : (Int → Option Int) → List (Int × Int) → Bool
  | _, [] => true
  | g, (c, v) :: r => decide ((g c).getD v = v) && fitZ (updG g c v) r
def fitB (g : Int → Option Int) (cs row : List Int) : Bool := fitZ g (cs.zip row)
def viewsG (rels : List Rl) (g : Int → Option Int) (t : Tie) : List (List Int) := (relRows rels t.1).filter (fitB g t.2)
theorem set_end {X : Store} {n : Nat} {o o' : SO} (h : n = X.length) : (X ++ [o]).set n o' = X ++ [o'] := by
  subst h
  rw [List.set_append_right _ _ (Nat.le_refl _), Nat.sub_self]
  rfl
theorem get_end {X : Store} {n : Nat} {o : SO} (h : n = X.length) : (X ++ [o])[n]? = some o := by
  subst h
  rw [List.getElem?_append_right (Nat.le_refl _), Nat.sub_self]
  rfl
end Mir
set_option maxHeartbeats 4000000
namespace Mir
open PySem L2 MirCg
local macro_rules | `(tactic| dsimp! [$ls,*]) => `(tactic| simp only [ev_bindExc, ev_asg, ev_unTup, ev_unLst, ev_tupM, ev_gsCons, ev_gsNil, ev_raise, ev_tryL, ev_tryOk, ev_tryExc, ev_tryB, ev_tryBOk, ev_tryBExc, endS_rtE, endS_nxE, ev_kin, ev_kget, ev_index, eqD_int, neD_int, ek_fldI, fz_ties, fz_cells, fz_book, fz_rels, fz_rows, fz_size, ev_bind, ev_nox, ek_seq, k_nx, k_ct, k_bk, k_rt, bind_as, ev_set, ev_setOwn, ev_share, ev_drop, ev_ret, ev_retOwn, ev_skip, ev_brk, ev_cnt, ek_ifS, k_t, k_f, ev_frzS, ev_append, ev_setIx, ev_for, ev_lc, ev_seqOf, ev_range, ev_var, ev_c, ev_op, ev_un, ev_args, ev_nil, ev_cons, ev_frz, ev_b, ev_and, ev_or, ev_not, ev_andV, ev_orV, ev_notV, ev_if, ev_chain, ev_isi, ev_ixOwn, ev_lenOwn, ev_call, ev_callK, ev_sl, ev_part, ev_true, ev_nm, ev_toB, frz, frzAt, toSeq_tup, toSeq_pt, toSeq_lst, toSeq_cl, toRet, mWipe, kbG, Mir.gTup, Mir.gLst, List.getElem?_cons_zero, List.getElem?_cons_succ, List.set_cons_zero, List.set_cons_succ, List.length_cons, List.length_nil, List.append_nil, List.nil_append, List.cons_append, Nat.reduceAdd, Nat.reduceLeDiff, Nat.reduceEqDiff, Nat.zero_add, reduceIte, Bool.false_eq_true, Bool.not_true, Bool.not_false, and_self, sizeM_eq, ev_make, ev_isiC, ev_sortD, ev_key, ev_join, ev_shr, ev_disp, ev_dput, ev_tru, gTru, cz0, cz1, cz2, cz3, cz4, Nat.reduceLT, Int.reduceEq, Int.reduceLT, Int.reduceLE, Int.reduceAdd, decide_true, decide_false, eqD_int, neD_int, eqD_str, neD_str, _root_.eq_self, len_tup, len_pt, len_lst, len_cl, lenR, lenC, sqC, unpt_cel, addA_int, addA_tup, addA_lst, mulA_int, mul_int, sub_int, lt_int, le_int, gt_int, geA_int, neg_int, int_int, tuple_lst, tuple_tup, tupleP_lst, tupleP_pt, ev_asT, setS_obj, unpt_pt, unpt_tup, unpt_non, list_tup, list_lst, in_own, ev_lc2, ev_dget2, ev_dget1, ev_dsetd, ev_putE, ev_appE, ev_newD, ev_fldO, ev_fldPut, ev_makeO, ev_listRv, ev_while, ev_gs, ev_gs0, ev_seqB, ev_callO, ev_indexT, wp_ok, wp_def, lq_nx, lq_ct, lq_bk, lq_rt, rho0, List.map_cons, List.map_nil, List.replicate, Nat.sub_self, Nat.reduceSub, $ls,*])
/-- a puzzle of the family: its ties, in plain -/
structure FzOk (rels : List Rl) (cc : Nat) (ts : List Tie) : Prop where
  bk : BkOk rels
  ties : ∀ t ∈ ts, TieOk rels cc t
  len : ts.length ≤ 1000
  cells : cc ≤ 1000
theorem FzOk.pz {rels : List Rl} {cc : Nat} {ts : List Tie} (h : FzOk rels cc ts) : PzOk rels cc ts := ⟨h.ties, fun p hp => ⟨(h.bk.all p hp).n1, (h.bk.all p hp).n4⟩, by have := h.len; omega, h.cells⟩
theorem FzOk.tie {rels : List Rl} {cc : Nat} {ts : List Tie} (h : FzOk rels cc ts) {t : Tie} (ht : t ∈ ts) : ∃ p, rels[t.1]? = some p ∧ RlOk p.1 p.2 ∧ relRows rels t.1 = p.2 ∧ t.2.length = p.1 ∧ 1 ≤ t.2.length ∧ t.2.length ≤ 4 ∧ ∀ c ∈ t.2, 0 ≤ c ∧ c < (cc : Int) := by
  obtain ⟨p, hp, hl, a, b, c⟩ := h.pz.tie ht
  refine ⟨p, hp, h.bk.all p (List.mem_of_getElem? hp), ?_, hl, a, b, c⟩
  unfold relRows
  rw [List.getD_eq_getElem?_getD, hp]
  rfl
end Mir
set_option maxHeartbeats 4000000
namespace Mir
open PySem L2 MirCg
def Ext (g h : Int → Option Int) : Prop := ∀ c v, g c = some v → h c = some v
theorem Ext.refl (g : Int → Option Int) : Ext g g := fun _ _ h => h
theorem Ext.trans {g h k : Int → Option Int} (a : Ext g h) (b : Ext h k) : Ext g k := fun c v e => b c v (a c v e)
theorem Ext.upd {g h : Int → Option Int} (a : Ext g h) {c v : Int} (e : h c = some v) : Ext (updG g c v) h := fun d w q => by
  unfold updG at q
  by_cases z : d = c
  · rw [if_pos z] at q; cases q; rw [z]; exact e
  · rw [if_neg z] at q; exact a d w q
theorem ext_upd {g : Int → Option Int} {c v : Int} (e : g c = none) : Ext g (updG g c v) := fun d w q => by
  unfold updG
  by_cases z : d = c
  · rw [z, e] at q; cases q
  · rw [if_neg z]; exact q
theorem Ext.anti {g h : Int → Option Int} (a : Ext g h) (b : Ext h g) : g = h := by
  funext c
  cases e : g c with
  | some v => rw [a c v e]
  | none =>
    cases e2 : h c with
    | none => rfl
    | some v => rw [b c v e2] at e; cases e
theorem fit_mono : ∀ {ps : List (Int × Int)} {g h : Int → Option Int}, Ext g h → fitZ h ps = true → fitZ g ps = true
  | [], _, _, _, _ => rfl
  | (c, v) :: r, g, h, e, q => by
    unfold fitZ at q ⊢
    rw [Bool.and_eq_true, decide_eq_true_iff] at q ⊢
    obtain ⟨q1, q2⟩ := q
    refine ⟨?_, fit_mono (fun d w z => ?_) q2⟩
    · cases w : g c with
      | none => rfl
      | some u => rw [e c u w] at q1; exact q1
    · unfold updG at z ⊢
      by_cases y : d = c
      · rw [if_pos y] at z ⊢; exact z
      · rw [if_neg y] at z ⊢; exact e d w z
theorem fit_at : ∀ {ps : List (Int × Int)} {h : Int → Option Int}, fitZ h ps = true → ∀ c v w, (c, v) ∈ ps → h c = some w → w = v
  | [], _, _, _, _, _, m, _ => by cases m
  | (c0, v0) :: r, h, q, c, v, w, m, e => by
    unfold fitZ at q
    rw [Bool.and_eq_true, decide_eq_true_iff] at q
    obtain ⟨q1, q2⟩ := q
    rcases List.mem_cons.mp m with z | z
    · cases z
      rw [e] at q1
      exact q1
    · refine fit_at q2 c v w z ?_
      unfold updG
      by_cases y : c = c0
      · rw [if_pos y]
        subst y
        rw [e] at q1
        have q1 : w = v0 := q1
        rw [q1]
      · rw [if_neg y]; exact e
theorem views_mono {rels : List Rl} {g h : Int → Option Int} (e : Ext g h) (t : Tie) {r : List Int} (hr : r ∈ viewsG rels h t) : r ∈ viewsG rels g t := by
  obtain ⟨a, b⟩ := List.mem_filter.mp hr
  exact List.mem_filter.mpr ⟨a, fit_mono e b⟩
/-- all views of a tie have this value at this place -/
def Agree (rels : List Rl) (g : Int → Option Int) (t : Tie) (j : Nat) (v : Int) : Prop := ∀ r ∈ viewsG rels g t, r.getD j 0 = v
/-- a tie has views, and what they agree in is fixed -/
def Settled (rels : List Rl) (g : Int → Option Int) (t : Tie) : Prop := viewsG rels g t ≠ [] ∧ ∀ j c, t.2[j]? = some c → ∀ v, Agree rels g t j v → g c ≠ none
def ClosedT (rels : List Rl) (ts : List Tie) (g : Int → Option Int) : Prop := ∀ t ∈ ts, Settled rels g t
def SoundG (rels : List Rl) (ts : List Tie) (g0 g : Int → Option Int) : Prop := Ext g0 g ∧ ∀ h, ClosedT rels ts h → Ext g0 h → Ext g h
def DeadG (rels : List Rl) (ts : List Tie) (g0 : Int → Option Int) : Prop := ∀ h, ClosedT rels ts h → ¬ Ext g0 h
theorem SoundG.refl (rels : List Rl) (ts : List Tie) (g : Int → Option Int) : SoundG rels ts g g := ⟨Ext.refl g, fun _ _ h => h⟩
theorem view_pair {rels : List Rl} {g : Int → Option Int} {t : Tie} {r : List Int} {p : Rl} (hp : rels[t.1]? = some p) (po : RlOk p.1 p.2) (hl : t.2.length = p.1) (hr : r ∈ viewsG rels g t) {j : Nat} {c : Int} (hj : t.2[j]? = some c) : (c, r.getD j 0) ∈ t.2.zip r ∧ r.length = t.2.length ∧ (r.getD j 0 = 0 ∨ r.getD j 0 = 1) := by
  have h1 := (List.mem_filter.mp hr).1
  unfold relRows at h1
  rw [List.getD_eq_getElem?_getD, hp] at h1
  have h1 : r ∈ p.2 := h1
  obtain ⟨rl, rb⟩ := po.rows r h1
  have jl := (List.getElem?_eq_some_iff.mp hj).1
  have jr : j < r.length := by omega
  refine ⟨?_, by omega, bit_getD rb j⟩
  refine List.mem_of_getElem? (i := j) ?_
  rw [List.getElem?_zip_eq_some]
  refine ⟨hj, ?_⟩
  rw [List.getD_eq_getElem?_getD, List.getElem?_eq_getElem jr]
  rfl
/-- a step keeps what is sound -/
theorem SoundG.step {rels : List Rl} {ts : List Tie} {g0 g gs : Int → Option Int} (s : SoundG rels ts g0 g) (e : Ext gs g) {t : Tie} (ht : t ∈ ts) {p : Rl} (hp : rels[t.1]? = some p) (po : RlOk p.1 p.2) (hl : t.2.length = p.1) {j : Nat} {c v : Int} (hj : t.2[j]? = some c) (ha : Agree rels gs t j v) (hn : g c = none) : SoundG rels ts g0 (updG g c v) := by
  refine ⟨s.1.trans (ext_upd hn), fun k ck ek => ?_⟩
  have a := s.2 k ck ek
  have ak : Agree rels k t j v := fun r hr => ha r (views_mono (e.trans a) t hr)
  obtain ⟨h1, h2⟩ := ck t ht
  cases q : k c with
  | none => exact absurd q (h2 j c hj v ak)
  | some w =>
    cases q2 : viewsG rels k t with
    | nil => exact absurd q2 h1
    | cons r rs =>
      have m : r ∈ viewsG rels k t := by rw [q2]; simp
      have e1 := fit_at (List.mem_filter.mp m).2 c (r.getD j 0) w (view_pair hp po hl m hj).1 q
      rw [ak r m] at e1
      exact a.upd (by rw [q, e1])
/-- a dict of cells and values of a puzzle -/
structure FxOk (cc : Nat) (f : Fx) : Prop where
  nd : (f.map Prod.fst).Nodup
  ok : ∀ p ∈ f, 0 ≤ p.1 ∧ p.1 < (cc : Int) ∧ (p.2 = 0 ∨ p.2 = 1)
theorem get_none {f : Fx} {c : Int} (h : getF f c = none) : c ∉ f.map Prod.fst := fun m => by
  obtain ⟨p, hp, e⟩ := List.mem_map.mp m
  unfold getF at h
  rw [Option.map_eq_none_iff, List.find?_eq_none] at h
  exact h p hp (by rw [decide_eq_true_iff]; exact e)
theorem put_none {f : Fx} {c v : Int} (h : getF f c = none) : putF f c v = f ++ [(c, v)] := by
  unfold putF
  rw [get_any, h]
  rfl
theorem FxOk.put {cc : Nat} {f : Fx} (h : FxOk cc f) {c v : Int} (hn : getF f c = none) (h0 : 0 ≤ c) (h1 : c < (cc : Int)) (hv : v = 0 ∨ v = 1) : FxOk cc (putF f c v) := by
  rw [put_none hn]
  constructor
  · rw [List.map_append]
    refine List.nodup_append.mpr ⟨h.nd, List.nodup_cons.mpr ⟨by simp, List.nodup_nil⟩, fun a ha b hb e => ?_⟩
    rw [List.map_cons, List.map_nil, List.mem_singleton] at hb
    rw [e, hb] at ha
    exact get_none hn ha
  · intro p hp
    rcases List.mem_append.mp hp with a | a
    · exact h.ok p a
    · rw [List.mem_singleton.mp a]
      exact ⟨h0, h1, hv⟩
theorem FxOk.len {cc : Nat} {f : Fx} (h : FxOk cc f) : f.length ≤ cc := by
  have a := nodup_len (f.map Prod.fst) ((List.range cc).map fun k : Nat => (k : Int)) h.nd fun c hc => by
    obtain ⟨p, hp, rfl⟩ := List.mem_map.mp hc
    obtain ⟨b, d, _⟩ := h.ok p hp
    exact List.mem_map.mpr ⟨p.1.toNat, List.mem_range.mpr (by omega), by omega⟩
  simpa using a
/-- a dict's cells as a start -/
def outG (g : Int → Option Int) : List (Nat × Int) := ((List.range 40).filter fun c : Nat => (g (c : Int)).isSome).map fun c : Nat => (c, (g (c : Int)).getD 0)
/-- what forced is to tell -/
def ForcedIs (rels : List Rl) (cc : Nat) (ts : List Tie) (g0 : Int → Option Int) : Option (List (Nat × Int)) → Prop
  | none => DeadG rels ts g0
  | some st => ∃ f, FxOk cc f ∧ SoundG rels ts g0 (getF f) ∧ ClosedT rels ts (getF f) ∧ st = outG (getF f)
theorem ForcedIs.one {rels : List Rl} {cc : Nat} {ts : List Tie} {g0 : Int → Option Int} : ∀ {a b : Option (List (Nat × Int))}, ForcedIs rels cc ts g0 a → ForcedIs rels cc ts g0 b → a = b
  | none, none, _, _ => rfl
  | none, some _, d, ⟨f, _, s, c, _⟩ => absurd s.1 (d _ c)
  | some _, none, ⟨f, _, s, c, _⟩, d => absurd s.1 (d _ c)
  | some a, some b, ⟨f, _, s, c, e⟩, ⟨f', _, s', c', e'⟩ => by
    rw [e, e', (s.2 _ c' s'.1).anti (s'.2 _ c s.1)]
end Mir
set_option maxHeartbeats 4000000
namespace Mir
open PySem L2 MirCg
local macro_rules | `(tactic| dsimp! [$ls,*]) => `(tactic| simp only [ev_bindExc, ev_asg, ev_unTup, ev_unLst, ev_tupM, ev_gsCons, ev_gsNil, ev_raise, ev_tryL, ev_tryOk, ev_tryExc, ev_tryB, ev_tryBOk, ev_tryBExc, endS_rtE, endS_nxE, ev_kin, ev_kget, ev_index, eqD_int, neD_int, ek_fldI, fz_ties, fz_cells, fz_book, fz_rels, fz_rows, fz_size, ev_bind, ev_nox, ek_seq, k_nx, k_ct, k_bk, k_rt, bind_as, ev_set, ev_setOwn, ev_share, ev_drop, ev_ret, ev_retOwn, ev_skip, ev_brk, ev_cnt, ek_ifS, k_t, k_f, ev_frzS, ev_append, ev_setIx, ev_for, ev_lc, ev_seqOf, ev_range, ev_var, ev_c, ev_op, ev_un, ev_args, ev_nil, ev_cons, ev_frz, ev_b, ev_and, ev_or, ev_not, ev_andV, ev_orV, ev_notV, ev_if, ev_chain, ev_isi, ev_ixOwn, ev_lenOwn, ev_call, ev_callK, ev_sl, ev_part, ev_true, ev_nm, ev_toB, frz, frzAt, toSeq_tup, toSeq_pt, toSeq_lst, toSeq_cl, toRet, mWipe, kbG, Mir.gTup, Mir.gLst, List.getElem?_cons_zero, List.getElem?_cons_succ, List.set_cons_zero, List.set_cons_succ, List.length_cons, List.length_nil, List.append_nil, List.nil_append, List.cons_append, Nat.reduceAdd, Nat.reduceLeDiff, Nat.reduceEqDiff, Nat.zero_add, reduceIte, Bool.false_eq_true, Bool.not_true, Bool.not_false, and_self, sizeM_eq, ev_make, ev_isiC, ev_sortD, ev_key, ev_join, ev_shr, ev_disp, ev_dput, ev_tru, gTru, cz0, cz1, cz2, cz3, cz4, Nat.reduceLT, Int.reduceEq, Int.reduceLT, Int.reduceLE, Int.reduceAdd, decide_true, decide_false, eqD_int, neD_int, eqD_str, neD_str, _root_.eq_self, len_tup, len_pt, len_lst, len_cl, lenR, lenC, sqC, unpt_cel, addA_int, addA_tup, addA_lst, mulA_int, mul_int, sub_int, lt_int, le_int, gt_int, geA_int, neg_int, int_int, tuple_lst, tuple_tup, tupleP_lst, tupleP_pt, ev_asT, setS_obj, unpt_pt, unpt_tup, unpt_non, list_tup, list_lst, in_own, ev_lc2, ev_dget2, ev_dget1, ev_dsetd, ev_putE, ev_appE, ev_newD, ev_fldO, ev_fldPut, ev_makeO, ev_listRv, ev_while, ev_gs, ev_gs0, ev_seqB, ev_callO, ev_indexT, wp_ok, wp_def, lq_nx, lq_ct, lq_bk, lq_rt, rho0, List.map_cons, List.map_nil, List.replicate, Nat.sub_self, Nat.reduceSub, $ls,*])
/-- what holds within the rounds -/
structure FRound (rels : List Rl) (cc : Nat) (ts : List Tie) (g0 : Int → Option Int) (f : Fx) : Prop where
  ok : FxOk cc f
  so : SoundG rels ts g0 (getF f)
theorem FRound.put {rels : List Rl} {cc : Nat} {ts : List Tie} (hz : FzOk rels cc ts) {g0 : Int → Option Int} {f : Fx} (h : FRound rels cc ts g0 f) {gs : Int → Option Int} (e : Ext gs (getF f)) {t : Tie} (ht : t ∈ ts) {j : Nat} {c v : Int} (hj : t.2[j]? = some c) (ha : Agree rels gs t j v) (hb : v = 0 ∨ v = 1) (hn : getF f c = none) : FRound rels cc ts g0 (putF f c v) := by
  obtain ⟨p, hp, po, rr, hl, t1, t4, hc⟩ := hz.tie ht
  obtain ⟨c0, c1⟩ := hc c (List.mem_of_getElem? hj)
  exact ⟨h.ok.put hn c0 c1 hb, by rw [get_put]; exact h.so.step e ht hp po hl hj ha hn⟩
end Mir
set_option maxHeartbeats 4000000
namespace Mir
open PySem L2 MirCg
abbrev Step := Nat × Int × Int
section
variable {S0 S : Store} {rels : List Rl} {cc : Nat} {ts : List Tie} {br : PV} {f : Fx} {st : List Step} {w : List Nat}
end
section
variable {β γ : Type} {ρ : Rho} {S : Store} {g : PV → Rho → Store → Res Rho} {b : Rho → Store → Res Out} {k : Out → Store → Res β} {Q : β → Store → Prop} {F : γ → PV} {ps : List γ} {n : Nat}
end
end Mir
set_option maxHeartbeats 4000000
namespace Mir
open PySem L2 MirCg
local macro_rules | `(tactic| dsimp! [$ls,*]) => `(tactic| simp only [ev_bindExc, ev_asg, ev_unTup, ev_unLst, ev_tupM, ev_gsCons, ev_gsNil, ev_raise, ev_tryL, ev_tryOk, ev_tryExc, ev_tryB, ev_tryBOk, ev_tryBExc, endS_rtE, endS_nxE, ev_kin, ev_kget, ev_index, eqD_int, neD_int, ek_fldI, fz_ties, fz_cells, fz_book, fz_rels, fz_rows, fz_size, ev_bind, ev_nox, ek_seq, k_nx, k_ct, k_bk, k_rt, bind_as, ev_set, ev_setOwn, ev_share, ev_drop, ev_ret, ev_retOwn, ev_skip, ev_brk, ev_cnt, ek_ifS, k_t, k_f, ev_frzS, ev_append, ev_setIx, ev_for, ev_lc, ev_seqOf, ev_range, ev_var, ev_c, ev_op, ev_un, ev_args, ev_nil, ev_cons, ev_frz, ev_b, ev_and, ev_or, ev_not, ev_andV, ev_orV, ev_notV, ev_if, ev_chain, ev_isi, ev_ixOwn, ev_lenOwn, ev_call, ev_callK, ev_sl, ev_part, ev_true, ev_nm, ev_toB, frz, frzAt, toSeq_tup, toSeq_pt, toSeq_lst, toSeq_cl, toRet, mWipe, kbG, Mir.gTup, Mir.gLst, List.getElem?_cons_zero, List.getElem?_cons_succ, List.set_cons_zero, List.set_cons_succ, List.length_cons, List.length_nil, List.append_nil, List.nil_append, List.cons_append, Nat.reduceAdd, Nat.reduceLeDiff, Nat.reduceEqDiff, Nat.zero_add, reduceIte, Bool.false_eq_true, Bool.not_true, Bool.not_false, and_self, sizeM_eq, ev_make, ev_isiC, ev_sortD, ev_key, ev_join, ev_shr, ev_disp, ev_dput, ev_tru, gTru, cz0, cz1, cz2, cz3, cz4, Nat.reduceLT, Int.reduceEq, Int.reduceLT, Int.reduceLE, Int.reduceAdd, decide_true, decide_false, eqD_int, neD_int, eqD_str, neD_str, _root_.eq_self, len_tup, len_pt, len_lst, len_cl, lenR, lenC, sqC, unpt_cel, addA_int, addA_tup, addA_lst, mulA_int, mul_int, sub_int, lt_int, le_int, gt_int, geA_int, neg_int, int_int, tuple_lst, tuple_tup, tupleP_lst, tupleP_pt, ev_asT, setS_obj, unpt_pt, unpt_tup, unpt_non, list_tup, list_lst, in_own, ev_lc2, ev_dget2, ev_dget1, ev_dsetd, ev_putE, ev_appE, ev_newD, ev_fldO, ev_fldPut, ev_makeO, ev_listRv, ev_while, ev_gs, ev_gs0, ev_seqB, ev_callO, ev_indexT, wp_ok, wp_def, lq_nx, lq_ct, lq_bk, lq_rt, rho0, List.map_cons, List.map_nil, List.replicate, Nat.sub_self, Nat.reduceSub, $ls,*])
end Mir
set_option maxHeartbeats 4000000
namespace Mir
open PySem L2 MirCg
local macro_rules | `(tactic| dsimp! [$ls,*]) => `(tactic| simp only [ev_bindExc, ev_asg, ev_unTup, ev_unLst, ev_tupM, ev_gsCons, ev_gsNil, ev_raise, ev_tryL, ev_tryOk, ev_tryExc, ev_tryB, ev_tryBOk, ev_tryBExc, endS_rtE, endS_nxE, ev_kin, ev_kget, ev_index, eqD_int, neD_int, ek_fldI, fz_ties, fz_cells, fz_book, fz_rels, fz_rows, fz_size, ev_bind, ev_nox, ek_seq, k_nx, k_ct, k_bk, k_rt, bind_as, ev_set, ev_setOwn, ev_share, ev_drop, ev_ret, ev_retOwn, ev_skip, ev_brk, ev_cnt, ek_ifS, k_t, k_f, ev_frzS, ev_append, ev_setIx, ev_for, ev_lc, ev_seqOf, ev_range, ev_var, ev_c, ev_op, ev_un, ev_args, ev_nil, ev_cons, ev_frz, ev_b, ev_and, ev_or, ev_not, ev_andV, ev_orV, ev_notV, ev_if, ev_chain, ev_isi, ev_ixOwn, ev_lenOwn, ev_call, ev_callK, ev_sl, ev_part, ev_true, ev_nm, ev_toB, frz, frzAt, toSeq_tup, toSeq_pt, toSeq_lst, toSeq_cl, toRet, mWipe, kbG, Mir.gTup, Mir.gLst, List.getElem?_cons_zero, List.getElem?_cons_succ, List.set_cons_zero, List.set_cons_succ, List.length_cons, List.length_nil, List.append_nil, List.nil_append, List.cons_append, Nat.reduceAdd, Nat.reduceLeDiff, Nat.reduceEqDiff, Nat.zero_add, reduceIte, Bool.false_eq_true, Bool.not_true, Bool.not_false, and_self, sizeM_eq, ev_make, ev_isiC, ev_sortD, ev_key, ev_join, ev_shr, ev_disp, ev_dput, ev_tru, gTru, cz0, cz1, cz2, cz3, cz4, Nat.reduceLT, Int.reduceEq, Int.reduceLT, Int.reduceLE, Int.reduceAdd, decide_true, decide_false, eqD_int, neD_int, eqD_str, neD_str, _root_.eq_self, len_tup, len_pt, len_lst, len_cl, lenR, lenC, sqC, unpt_cel, addA_int, addA_tup, addA_lst, mulA_int, mul_int, sub_int, lt_int, le_int, gt_int, geA_int, neg_int, int_int, tuple_lst, tuple_tup, tupleP_lst, tupleP_pt, ev_asT, setS_obj, unpt_pt, unpt_tup, unpt_non, list_tup, list_lst, in_own, ev_lc2, ev_dget2, ev_dget1, ev_dsetd, ev_putE, ev_appE, ev_newD, ev_fldO, ev_fldPut, ev_makeO, ev_listRv, ev_while, ev_gs, ev_gs0, ev_seqB, ev_callO, ev_indexT, wp_ok, wp_def, lq_nx, lq_ct, lq_bk, lq_rt, rho0, List.map_cons, List.map_nil, List.replicate, Nat.sub_self, Nat.reduceSub, $ls,*])
end Mir
set_option maxHeartbeats 4000000
namespace Mir
open PySem L2 MirCg
local macro_rules | `(tactic| dsimp! [$ls,*]) => `(tactic| simp only [ev_bindExc, ev_asg, ev_unTup, ev_unLst, ev_tupM, ev_gsCons, ev_gsNil, ev_raise, ev_tryL, ev_tryOk, ev_tryExc, ev_tryB, ev_tryBOk, ev_tryBExc, endS_rtE, endS_nxE, ev_kin, ev_kget, ev_index, eqD_int, neD_int, ek_fldI, fz_ties, fz_cells, fz_book, fz_rels, fz_rows, fz_size, ev_bind, ev_nox, ek_seq, k_nx, k_ct, k_bk, k_rt, bind_as, ev_set, ev_setOwn, ev_share, ev_drop, ev_ret, ev_retOwn, ev_skip, ev_brk, ev_cnt, ek_ifS, k_t, k_f, ev_frzS, ev_append, ev_setIx, ev_for, ev_lc, ev_seqOf, ev_range, ev_var, ev_c, ev_op, ev_un, ev_args, ev_nil, ev_cons, ev_frz, ev_b, ev_and, ev_or, ev_not, ev_andV, ev_orV, ev_notV, ev_if, ev_chain, ev_isi, ev_ixOwn, ev_lenOwn, ev_call, ev_callK, ev_sl, ev_part, ev_true, ev_nm, ev_toB, frz, frzAt, toSeq_tup, toSeq_pt, toSeq_lst, toSeq_cl, toRet, mWipe, kbG, Mir.gTup, Mir.gLst, List.getElem?_cons_zero, List.getElem?_cons_succ, List.set_cons_zero, List.set_cons_succ, List.length_cons, List.length_nil, List.append_nil, List.nil_append, List.cons_append, Nat.reduceAdd, Nat.reduceLeDiff, Nat.reduceEqDiff, Nat.zero_add, reduceIte, Bool.false_eq_true, Bool.not_true, Bool.not_false, and_self, sizeM_eq, ev_make, ev_isiC, ev_sortD, ev_key, ev_join, ev_shr, ev_disp, ev_dput, ev_tru, gTru, cz0, cz1, cz2, cz3, cz4, Nat.reduceLT, Int.reduceEq, Int.reduceLT, Int.reduceLE, Int.reduceAdd, decide_true, decide_false, eqD_int, neD_int, eqD_str, neD_str, _root_.eq_self, len_tup, len_pt, len_lst, len_cl, lenR, lenC, sqC, unpt_cel, addA_int, addA_tup, addA_lst, mulA_int, mul_int, sub_int, lt_int, le_int, gt_int, geA_int, neg_int, int_int, tuple_lst, tuple_tup, tupleP_lst, tupleP_pt, ev_asT, setS_obj, unpt_pt, unpt_tup, unpt_non, list_tup, list_lst, in_own, ev_lc2, ev_dget2, ev_dget1, ev_dsetd, ev_putE, ev_appE, ev_newD, ev_fldO, ev_fldPut, ev_makeO, ev_listRv, ev_while, ev_gs, ev_gs0, ev_seqB, ev_callO, ev_indexT, wp_ok, wp_def, lq_nx, lq_ct, lq_bk, lq_rt, rho0, List.map_cons, List.map_nil, List.replicate, Nat.sub_self, Nat.reduceSub, $ls,*])
end Mir
set_option maxHeartbeats 4000000
namespace Mir
open PySem L2 MirCg
local macro_rules | `(tactic| dsimp! [$ls,*]) => `(tactic| simp only [ev_bindExc, ev_asg, ev_unTup, ev_unLst, ev_tupM, ev_gsCons, ev_gsNil, ev_raise, ev_tryL, ev_tryOk, ev_tryExc, ev_tryB, ev_tryBOk, ev_tryBExc, endS_rtE, endS_nxE, ev_kin, ev_kget, ev_index, eqD_int, neD_int, ek_fldI, fz_ties, fz_cells, fz_book, fz_rels, fz_rows, fz_size, ev_bind, ev_nox, ek_seq, k_nx, k_ct, k_bk, k_rt, bind_as, ev_set, ev_setOwn, ev_share, ev_drop, ev_ret, ev_retOwn, ev_skip, ev_brk, ev_cnt, ek_ifS, k_t, k_f, ev_frzS, ev_append, ev_setIx, ev_for, ev_lc, ev_seqOf, ev_range, ev_var, ev_c, ev_op, ev_un, ev_args, ev_nil, ev_cons, ev_frz, ev_b, ev_and, ev_or, ev_not, ev_andV, ev_orV, ev_notV, ev_if, ev_chain, ev_isi, ev_ixOwn, ev_lenOwn, ev_call, ev_callK, ev_sl, ev_part, ev_true, ev_nm, ev_toB, frz, frzAt, toSeq_tup, toSeq_pt, toSeq_lst, toSeq_cl, toRet, mWipe, kbG, Mir.gTup, Mir.gLst, List.getElem?_cons_zero, List.getElem?_cons_succ, List.set_cons_zero, List.set_cons_succ, List.length_cons, List.length_nil, List.append_nil, List.nil_append, List.cons_append, Nat.reduceAdd, Nat.reduceLeDiff, Nat.reduceEqDiff, Nat.zero_add, reduceIte, Bool.false_eq_true, Bool.not_true, Bool.not_false, and_self, sizeM_eq, ev_make, ev_isiC, ev_sortD, ev_key, ev_join, ev_shr, ev_disp, ev_dput, ev_tru, gTru, cz0, cz1, cz2, cz3, cz4, Nat.reduceLT, Int.reduceEq, Int.reduceLT, Int.reduceLE, Int.reduceAdd, decide_true, decide_false, eqD_int, neD_int, eqD_str, neD_str, _root_.eq_self, len_tup, len_pt, len_lst, len_cl, lenR, lenC, sqC, unpt_cel, addA_int, addA_tup, addA_lst, mulA_int, mul_int, sub_int, lt_int, le_int, gt_int, geA_int, neg_int, int_int, tuple_lst, tuple_tup, tupleP_lst, tupleP_pt, ev_asT, setS_obj, unpt_pt, unpt_tup, unpt_non, list_tup, list_lst, in_own, ev_lc2, ev_dget2, ev_dget1, ev_dsetd, ev_putE, ev_appE, ev_newD, ev_fldO, ev_fldPut, ev_makeO, ev_listRv, ev_while, ev_gs, ev_gs0, ev_seqB, ev_callO, ev_indexT, wp_ok, wp_def, lq_nx, lq_ct, lq_bk, lq_rt, rho0, List.map_cons, List.map_nil, List.replicate, Nat.sub_self, Nat.reduceSub, $ls,*])
end Mir
set_option maxHeartbeats 4000000
namespace Mir
open PySem L2 MirCg
local macro_rules | `(tactic| dsimp! [$ls,*]) => `(tactic| simp only [ev_bindExc, ev_asg, ev_unTup, ev_unLst, ev_tupM, ev_gsCons, ev_gsNil, ev_raise, ev_tryL, ev_tryOk, ev_tryExc, ev_tryB, ev_tryBOk, ev_tryBExc, endS_rtE, endS_nxE, ev_kin, ev_kget, ev_index, eqD_int, neD_int, ek_fldI, fz_ties, fz_cells, fz_book, fz_rels, fz_rows, fz_size, ev_bind, ev_nox, ek_seq, k_nx, k_ct, k_bk, k_rt, bind_as, ev_set, ev_setOwn, ev_share, ev_drop, ev_ret, ev_retOwn, ev_skip, ev_brk, ev_cnt, ek_ifS, k_t, k_f, ev_frzS, ev_append, ev_setIx, ev_for, ev_lc, ev_seqOf, ev_range, ev_var, ev_c, ev_op, ev_un, ev_args, ev_nil, ev_cons, ev_frz, ev_b, ev_and, ev_or, ev_not, ev_andV, ev_orV, ev_notV, ev_if, ev_chain, ev_isi, ev_ixOwn, ev_lenOwn, ev_call, ev_callK, ev_sl, ev_part, ev_true, ev_nm, ev_toB, frz, frzAt, toSeq_tup, toSeq_pt, toSeq_lst, toSeq_cl, toRet, mWipe, kbG, Mir.gTup, Mir.gLst, List.getElem?_cons_zero, List.getElem?_cons_succ, List.set_cons_zero, List.set_cons_succ, List.length_cons, List.length_nil, List.append_nil, List.nil_append, List.cons_append, Nat.reduceAdd, Nat.reduceLeDiff, Nat.reduceEqDiff, Nat.zero_add, reduceIte, Bool.false_eq_true, Bool.not_true, Bool.not_false, and_self, sizeM_eq, ev_make, ev_isiC, ev_sortD, ev_key, ev_join, ev_shr, ev_disp, ev_dput, ev_tru, gTru, cz0, cz1, cz2, cz3, cz4, Nat.reduceLT, Int.reduceEq, Int.reduceLT, Int.reduceLE, Int.reduceAdd, decide_true, decide_false, eqD_int, neD_int, eqD_str, neD_str, _root_.eq_self, len_tup, len_pt, len_lst, len_cl, lenR, lenC, sqC, unpt_cel, addA_int, addA_tup, addA_lst, mulA_int, mul_int, sub_int, lt_int, le_int, gt_int, geA_int, neg_int, int_int, tuple_lst, tuple_tup, tupleP_lst, tupleP_pt, ev_asT, setS_obj, unpt_pt, unpt_tup, unpt_non, list_tup, list_lst, in_own, ev_lc2, ev_dget2, ev_dget1, ev_dsetd, ev_putE, ev_appE, ev_newD, ev_fldO, ev_fldPut, ev_makeO, ev_listRv, ev_while, ev_gs, ev_gs0, ev_seqB, ev_callO, ev_indexT, wp_ok, wp_def, lq_nx, lq_ct, lq_bk, lq_rt, rho0, List.map_cons, List.map_nil, List.replicate, Nat.sub_self, Nat.reduceSub, $ls,*])
end Mir
set_option maxHeartbeats 4000000
namespace Mir
open PySem L2
noncomputable section
end
end Mir
set_option maxHeartbeats 4000000
namespace Mir
open PySem L2 MirCg
local macro_rules | `(tactic| dsimp! [$ls,*]) => `(tactic| simp only [ev_bindExc, ev_asg, ev_unTup, ev_unLst, ev_tupM, ev_gsCons, ev_gsNil, ev_raise, ev_tryL, ev_tryOk, ev_tryExc, ev_tryB, ev_tryBOk, ev_tryBExc, endS_rtE, endS_nxE, ev_kin, ev_kget, ev_index, eqD_int, neD_int, ek_fldI, fz_ties, fz_cells, fz_book, fz_rels, fz_rows, fz_size, ev_bind, ev_nox, ek_seq, k_nx, k_ct, k_bk, k_rt, bind_as, ev_set, ev_setOwn, ev_share, ev_drop, ev_ret, ev_retOwn, ev_skip, ev_brk, ev_cnt, ek_ifS, k_t, k_f, ev_frzS, ev_append, ev_setIx, ev_for, ev_lc, ev_seqOf, ev_range, ev_var, ev_c, ev_op, ev_un, ev_args, ev_nil, ev_cons, ev_frz, ev_b, ev_and, ev_or, ev_not, ev_andV, ev_orV, ev_notV, ev_if, ev_chain, ev_isi, ev_ixOwn, ev_lenOwn, ev_call, ev_callK, ev_sl, ev_part, ev_true, ev_nm, ev_toB, frz, frzAt, toSeq_tup, toSeq_pt, toSeq_lst, toSeq_cl, toRet, mWipe, kbG, Mir.gTup, Mir.gLst, List.getElem?_cons_zero, List.getElem?_cons_succ, List.set_cons_zero, List.set_cons_succ, List.length_cons, List.length_nil, List.append_nil, List.nil_append, List.cons_append, Nat.reduceAdd, Nat.reduceLeDiff, Nat.reduceEqDiff, Nat.zero_add, reduceIte, Bool.false_eq_true, Bool.not_true, Bool.not_false, and_self, sizeM_eq, ev_make, ev_isiC, ev_sortD, ev_key, ev_join, ev_shr, ev_disp, ev_dput, ev_tru, gTru, cz0, cz1, cz2, cz3, cz4, Nat.reduceLT, Int.reduceEq, Int.reduceLT, Int.reduceLE, Int.reduceAdd, decide_true, decide_false, eqD_int, neD_int, eqD_str, neD_str, _root_.eq_self, len_tup, len_pt, len_lst, len_cl, lenR, lenC, sqC, unpt_cel, addA_int, addA_tup, addA_lst, mulA_int, mul_int, sub_int, lt_int, le_int, gt_int, geA_int, neg_int, int_int, tuple_lst, tuple_tup, tupleP_lst, tupleP_pt, ev_asT, setS_obj, unpt_pt, unpt_tup, unpt_non, list_tup, list_lst, in_own, ev_lc2, ev_dget2, ev_dget1, ev_dsetd, ev_putE, ev_appE, ev_newD, ev_fldO, ev_fldPut, ev_makeO, ev_listRv, ev_while, ev_gs, ev_gs0, ev_seqB, ev_callO, ev_indexT, wp_ok, wp_def, lq_nx, lq_ct, lq_bk, lq_rt, rho0, List.map_cons, List.map_nil, List.replicate, Nat.sub_self, Nat.reduceSub, $ls,*])
end Mir
set_option maxHeartbeats 4000000
namespace Mir
open PySem L2 MirCg
local macro_rules | `(tactic| dsimp! [$ls,*]) => `(tactic| simp only [ev_bindExc, ev_asg, ev_unTup, ev_unLst, ev_tupM, ev_gsCons, ev_gsNil, ev_raise, ev_tryL, ev_tryOk, ev_tryExc, ev_tryB, ev_tryBOk, ev_tryBExc, endS_rtE, endS_nxE, ev_kin, ev_kget, ev_index, eqD_int, neD_int, ek_fldI, fz_ties, fz_cells, fz_book, fz_rels, fz_rows, fz_size, ev_bind, ev_nox, ek_seq, k_nx, k_ct, k_bk, k_rt, bind_as, ev_set, ev_setOwn, ev_share, ev_drop, ev_ret, ev_retOwn, ev_skip, ev_brk, ev_cnt, ek_ifS, k_t, k_f, ev_frzS, ev_append, ev_setIx, ev_for, ev_lc, ev_seqOf, ev_range, ev_var, ev_c, ev_op, ev_un, ev_args, ev_nil, ev_cons, ev_frz, ev_b, ev_and, ev_or, ev_not, ev_andV, ev_orV, ev_notV, ev_if, ev_chain, ev_isi, ev_ixOwn, ev_lenOwn, ev_call, ev_callK, ev_sl, ev_part, ev_true, ev_nm, ev_toB, frz, frzAt, toSeq_tup, toSeq_pt, toSeq_lst, toSeq_cl, toRet, mWipe, kbG, Mir.gTup, Mir.gLst, List.getElem?_cons_zero, List.getElem?_cons_succ, List.set_cons_zero, List.set_cons_succ, List.length_cons, List.length_nil, List.append_nil, List.nil_append, List.cons_append, Nat.reduceAdd, Nat.reduceLeDiff, Nat.reduceEqDiff, Nat.zero_add, reduceIte, Bool.false_eq_true, Bool.not_true, Bool.not_false, and_self, sizeM_eq, ev_make, ev_isiC, ev_sortD, ev_key, ev_join, ev_shr, ev_disp, ev_dput, ev_tru, gTru, cz0, cz1, cz2, cz3, cz4, Nat.reduceLT, Int.reduceEq, Int.reduceLT, Int.reduceLE, Int.reduceAdd, decide_true, decide_false, eqD_int, neD_int, eqD_str, neD_str, _root_.eq_self, len_tup, len_pt, len_lst, len_cl, lenR, lenC, sqC, unpt_cel, addA_int, addA_tup, addA_lst, mulA_int, mul_int, sub_int, lt_int, le_int, gt_int, geA_int, neg_int, int_int, tuple_lst, tuple_tup, tupleP_lst, tupleP_pt, ev_asT, setS_obj, unpt_pt, unpt_tup, unpt_non, list_tup, list_lst, in_own, ev_lc2, ev_dget2, ev_dget1, ev_dsetd, ev_putE, ev_appE, ev_newD, ev_fldO, ev_fldPut, ev_makeO, ev_listRv, ev_while, ev_gs, ev_gs0, ev_seqB, ev_callO, ev_indexT, wp_ok, wp_def, lq_nx, lq_ct, lq_bk, lq_rt, rho0, List.map_cons, List.map_nil, List.replicate, Nat.sub_self, Nat.reduceSub, $ls,*])
end Mir
set_option maxHeartbeats 4000000
namespace Mir
open PySem L2 MirCg
end Mir
set_option maxHeartbeats 4000000
namespace Mir
open PySem L2 MirCg
local macro_rules | `(tactic| dsimp! [$ls,*]) => `(tactic| simp only [ev_bindExc, ev_asg, ev_unTup, ev_unLst, ev_tupM, ev_gsCons, ev_gsNil, ev_raise, ev_tryL, ev_tryOk, ev_tryExc, ev_tryB, ev_tryBOk, ev_tryBExc, endS_rtE, endS_nxE, ev_kin, ev_kget, ev_index, eqD_int, neD_int, ek_fldI, fz_ties, fz_cells, fz_book, fz_rels, fz_rows, fz_size, ev_bind, ev_nox, ek_seq, k_nx, k_ct, k_bk, k_rt, bind_as, ev_set, ev_setOwn, ev_share, ev_drop, ev_ret, ev_retOwn, ev_skip, ev_brk, ev_cnt, ek_ifS, k_t, k_f, ev_frzS, ev_append, ev_setIx, ev_for, ev_lc, ev_seqOf, ev_range, ev_var, ev_c, ev_op, ev_un, ev_args, ev_nil, ev_cons, ev_frz, ev_b, ev_and, ev_or, ev_not, ev_andV, ev_orV, ev_notV, ev_if, ev_chain, ev_isi, ev_ixOwn, ev_lenOwn, ev_call, ev_callK, ev_sl, ev_part, ev_true, ev_nm, ev_toB, frz, frzAt, toSeq_tup, toSeq_pt, toSeq_lst, toSeq_cl, toRet, mWipe, kbG, Mir.gTup, Mir.gLst, List.getElem?_cons_zero, List.getElem?_cons_succ, List.set_cons_zero, List.set_cons_succ, List.length_cons, List.length_nil, List.append_nil, List.nil_append, List.cons_append, Nat.reduceAdd, Nat.reduceLeDiff, Nat.reduceEqDiff, Nat.zero_add, reduceIte, Bool.false_eq_true, Bool.not_true, Bool.not_false, and_self, sizeM_eq, ev_make, ev_isiC, ev_sortD, ev_key, ev_join, ev_shr, ev_disp, ev_dput, ev_tru, gTru, cz0, cz1, cz2, cz3, cz4, Nat.reduceLT, Int.reduceEq, Int.reduceLT, Int.reduceLE, Int.reduceAdd, decide_true, decide_false, eqD_int, neD_int, eqD_str, neD_str, _root_.eq_self, len_tup, len_pt, len_lst, len_cl, lenR, lenC, sqC, unpt_cel, addA_int, addA_tup, addA_lst, mulA_int, mul_int, sub_int, lt_int, le_int, gt_int, geA_int, neg_int, int_int, tuple_lst, tuple_tup, tupleP_lst, tupleP_pt, ev_asT, setS_obj, unpt_pt, unpt_tup, unpt_non, list_tup, list_lst, in_own, ev_lc2, ev_dget2, ev_dget1, ev_dsetd, ev_putE, ev_appE, ev_newD, ev_fldO, ev_fldPut, ev_makeO, ev_listRv, ev_while, ev_gs, ev_gs0, ev_seqB, ev_callO, ev_indexT, wp_ok, wp_def, lq_nx, lq_ct, lq_bk, lq_rt, rho0, List.map_cons, List.map_nil, List.replicate, Nat.sub_self, Nat.reduceSub, $ls,*])
end Mir
set_option maxHeartbeats 4000000
namespace Mir
open PySem L2
noncomputable section
end
noncomputable section
end
end Mir
set_option maxHeartbeats 4000000
namespace Mir
open PySem L2 MirCg
local macro_rules | `(tactic| dsimp! [$ls,*]) => `(tactic| simp only [ev_bindExc, ev_asg, ev_unTup, ev_unLst, ev_tupM, ev_gsCons, ev_gsNil, ev_raise, ev_tryL, ev_tryOk, ev_tryExc, ev_tryB, ev_tryBOk, ev_tryBExc, endS_rtE, endS_nxE, ev_kin, ev_kget, ev_index, eqD_int, neD_int, ek_fldI, fz_ties, fz_cells, fz_book, fz_rels, fz_rows, fz_size, ev_bind, ev_nox, ek_seq, k_nx, k_ct, k_bk, k_rt, bind_as, ev_set, ev_setOwn, ev_share, ev_drop, ev_ret, ev_retOwn, ev_skip, ev_brk, ev_cnt, ek_ifS, k_t, k_f, ev_frzS, ev_append, ev_setIx, ev_for, ev_lc, ev_seqOf, ev_range, ev_var, ev_c, ev_op, ev_un, ev_args, ev_nil, ev_cons, ev_frz, ev_b, ev_and, ev_or, ev_not, ev_andV, ev_orV, ev_notV, ev_if, ev_chain, ev_isi, ev_ixOwn, ev_lenOwn, ev_call, ev_callK, ev_sl, ev_part, ev_true, ev_nm, ev_toB, frz, frzAt, toSeq_tup, toSeq_pt, toSeq_lst, toSeq_cl, toRet, mWipe, kbG, Mir.gTup, Mir.gLst, List.getElem?_cons_zero, List.getElem?_cons_succ, List.set_cons_zero, List.set_cons_succ, List.length_cons, List.length_nil, List.append_nil, List.nil_append, List.cons_append, Nat.reduceAdd, Nat.reduceLeDiff, Nat.reduceEqDiff, Nat.zero_add, reduceIte, Bool.false_eq_true, Bool.not_true, Bool.not_false, and_self, sizeM_eq, ev_make, ev_isiC, ev_sortD, ev_key, ev_join, ev_shr, ev_disp, ev_dput, ev_tru, gTru, cz0, cz1, cz2, cz3, cz4, Nat.reduceLT, Int.reduceEq, Int.reduceLT, Int.reduceLE, Int.reduceAdd, decide_true, decide_false, eqD_int, neD_int, eqD_str, neD_str, _root_.eq_self, len_tup, len_pt, len_lst, len_cl, lenR, lenC, sqC, unpt_cel, addA_int, addA_tup, addA_lst, mulA_int, mul_int, sub_int, lt_int, le_int, gt_int, geA_int, neg_int, int_int, tuple_lst, tuple_tup, tupleP_lst, tupleP_pt, ev_asT, setS_obj, unpt_pt, unpt_tup, unpt_non, list_tup, list_lst, in_own, ev_lc2, ev_dget2, ev_dget1, ev_dsetd, ev_putE, ev_appE, ev_newD, ev_fldO, ev_fldPut, ev_makeO, ev_listRv, ev_while, ev_gs, ev_gs0, ev_seqB, ev_callO, ev_indexT, wp_ok, wp_def, lq_nx, lq_ct, lq_bk, lq_rt, rho0, List.map_cons, List.map_nil, List.replicate, Nat.sub_self, Nat.reduceSub, $ls,*])
end Mir
set_option maxHeartbeats 4000000
namespace Mir
open PySem L2 MirCg
local macro_rules | `(tactic| dsimp! [$ls,*]) => `(tactic| simp only [ev_bindExc, ev_asg, ev_unTup, ev_unLst, ev_tupM, ev_gsCons, ev_gsNil, ev_raise, ev_tryL, ev_tryOk, ev_tryExc, ev_tryB, ev_tryBOk, ev_tryBExc, endS_rtE, endS_nxE, ev_kin, ev_kget, ev_index, eqD_int, neD_int, ek_fldI, fz_ties, fz_cells, fz_book, fz_rels, fz_rows, fz_size, ev_bind, ev_nox, ek_seq, k_nx, k_ct, k_bk, k_rt, bind_as, ev_set, ev_setOwn, ev_share, ev_drop, ev_ret, ev_retOwn, ev_skip, ev_brk, ev_cnt, ek_ifS, k_t, k_f, ev_frzS, ev_append, ev_setIx, ev_for, ev_lc, ev_seqOf, ev_range, ev_var, ev_c, ev_op, ev_un, ev_args, ev_nil, ev_cons, ev_frz, ev_b, ev_and, ev_or, ev_not, ev_andV, ev_orV, ev_notV, ev_if, ev_chain, ev_isi, ev_ixOwn, ev_lenOwn, ev_call, ev_callK, ev_sl, ev_part, ev_true, ev_nm, ev_toB, frz, frzAt, toSeq_tup, toSeq_pt, toSeq_lst, toSeq_cl, toRet, mWipe, kbG, Mir.gTup, Mir.gLst, List.getElem?_cons_zero, List.getElem?_cons_succ, List.set_cons_zero, List.set_cons_succ, List.length_cons, List.length_nil, List.append_nil, List.nil_append, List.cons_append, Nat.reduceAdd, Nat.reduceLeDiff, Nat.reduceEqDiff, Nat.zero_add, reduceIte, Bool.false_eq_true, Bool.not_true, Bool.not_false, and_self, sizeM_eq, ev_make, ev_isiC, ev_sortD, ev_key, ev_join, ev_shr, ev_disp, ev_dput, ev_tru, gTru, cz0, cz1, cz2, cz3, cz4, Nat.reduceLT, Int.reduceEq, Int.reduceLT, Int.reduceLE, Int.reduceAdd, decide_true, decide_false, eqD_int, neD_int, eqD_str, neD_str, _root_.eq_self, len_tup, len_pt, len_lst, len_cl, lenR, lenC, sqC, unpt_cel, addA_int, addA_tup, addA_lst, mulA_int, mul_int, sub_int, lt_int, le_int, gt_int, geA_int, neg_int, int_int, tuple_lst, tuple_tup, tupleP_lst, tupleP_pt, ev_asT, setS_obj, unpt_pt, unpt_tup, unpt_non, list_tup, list_lst, in_own, ev_lc2, ev_dget2, ev_dget1, ev_dsetd, ev_putE, ev_appE, ev_newD, ev_fldO, ev_fldPut, ev_makeO, ev_listRv, ev_while, ev_gs, ev_gs0, ev_seqB, ev_callO, ev_indexT, wp_ok, wp_def, lq_nx, lq_ct, lq_bk, lq_rt, rho0, List.map_cons, List.map_nil, List.replicate, Nat.sub_self, Nat.reduceSub, $ls,*])
theorem FzOk.cell {rels : List Rl} {cc : Nat} {ts : List Tie} (h : FzOk rels cc ts) : ∀ t ∈ ts, ∀ c ∈ t.2, 0 ≤ c ∧ c < (cc : Int) := fun t ht => (h.ties t ht).cells
end Mir
set_option maxHeartbeats 4000000
namespace Mir
open PySem L2 MirCg
section
variable {fa : Rho → Store → Res (List PV)} {ρ : Rho} {S : Store}
end
theorem FzOk.get {rels : List Rl} {cc : Nat} {ts : List Tie} (h : FzOk rels cc ts) {t : Tie} (ht : t ∈ ts) : ∃ p, rels[t.1]? = some p ∧ RlOk p.1 p.2 ∧ t.2.length = p.1 ∧ t.2.length ≤ 4 ∧ ∀ g, (viewsG rels g t).length ≤ 16 := by
  obtain ⟨p, hp, po, rr, hl, t1, t4, hc⟩ := h.tie ht
  refine ⟨p, hp, po, hl, t4, fun g => ?_⟩
  unfold viewsG
  rw [rr]
  exact Nat.le_trans (List.length_filter_le _ _) po.few
end Mir
set_option maxHeartbeats 4000000
namespace Mir
open PySem L2 MirCg
local macro_rules | `(tactic| dsimp! [$ls,*]) => `(tactic| simp only [ev_bindExc, ev_asg, ev_unTup, ev_unLst, ev_tupM, ev_gsCons, ev_gsNil, ev_raise, ev_tryL, ev_tryOk, ev_tryExc, ev_tryB, ev_tryBOk, ev_tryBExc, endS_rtE, endS_nxE, ev_kin, ev_kget, ev_index, eqD_int, neD_int, ek_fldI, fz_ties, fz_cells, fz_book, fz_rels, fz_rows, fz_size, ev_bind, ev_nox, ek_seq, k_nx, k_ct, k_bk, k_rt, bind_as, ev_set, ev_setOwn, ev_share, ev_drop, ev_ret, ev_retOwn, ev_skip, ev_brk, ev_cnt, ek_ifS, k_t, k_f, ev_frzS, ev_append, ev_setIx, ev_for, ev_lc, ev_seqOf, ev_range, ev_var, ev_c, ev_op, ev_un, ev_args, ev_nil, ev_cons, ev_frz, ev_b, ev_and, ev_or, ev_not, ev_andV, ev_orV, ev_notV, ev_if, ev_chain, ev_isi, ev_ixOwn, ev_lenOwn, ev_call, ev_callK, ev_sl, ev_part, ev_true, ev_nm, ev_toB, frz, frzAt, toSeq_tup, toSeq_pt, toSeq_lst, toSeq_cl, toRet, mWipe, kbG, Mir.gTup, Mir.gLst, List.getElem?_cons_zero, List.getElem?_cons_succ, List.set_cons_zero, List.set_cons_succ, List.length_cons, List.length_nil, List.append_nil, List.nil_append, List.cons_append, Nat.reduceAdd, Nat.reduceLeDiff, Nat.reduceEqDiff, Nat.zero_add, reduceIte, Bool.false_eq_true, Bool.not_true, Bool.not_false, and_self, sizeM_eq, ev_make, ev_isiC, ev_sortD, ev_key, ev_join, ev_shr, ev_disp, ev_dput, ev_tru, gTru, cz0, cz1, cz2, cz3, cz4, Nat.reduceLT, Int.reduceEq, Int.reduceLT, Int.reduceLE, Int.reduceAdd, decide_true, decide_false, eqD_int, neD_int, eqD_str, neD_str, _root_.eq_self, len_tup, len_pt, len_lst, len_cl, lenR, lenC, sqC, unpt_cel, addA_int, addA_tup, addA_lst, mulA_int, mul_int, sub_int, lt_int, le_int, gt_int, geA_int, neg_int, int_int, tuple_lst, tuple_tup, tupleP_lst, tupleP_pt, ev_asT, setS_obj, unpt_pt, unpt_tup, unpt_non, list_tup, list_lst, in_own, ev_lc2, ev_dget2, ev_dget1, ev_dsetd, ev_putE, ev_appE, ev_newD, ev_fldO, ev_fldPut, ev_makeO, ev_listRv, ev_while, ev_gs, ev_gs0, ev_seqB, ev_callO, ev_indexT, wp_ok, wp_def, lq_nx, lq_ct, lq_bk, lq_rt, rho0, List.map_cons, List.map_nil, List.replicate, Nat.sub_self, Nat.reduceSub, $ls,*])
end Mir
set_option maxHeartbeats 4000000
namespace Mir
open PySem L2 MirCg
local macro_rules | `(tactic| dsimp! [$ls,*]) => `(tactic| simp only [ev_bindExc, ev_asg, ev_unTup, ev_unLst, ev_tupM, ev_gsCons, ev_gsNil, ev_raise, ev_tryL, ev_tryOk, ev_tryExc, ev_tryB, ev_tryBOk, ev_tryBExc, endS_rtE, endS_nxE, ev_kin, ev_kget, ev_index, eqD_int, neD_int, ek_fldI, fz_ties, fz_cells, fz_book, fz_rels, fz_rows, fz_size, ev_bind, ev_nox, ek_seq, k_nx, k_ct, k_bk, k_rt, bind_as, ev_set, ev_setOwn, ev_share, ev_drop, ev_ret, ev_retOwn, ev_skip, ev_brk, ev_cnt, ek_ifS, k_t, k_f, ev_frzS, ev_append, ev_setIx, ev_for, ev_lc, ev_seqOf, ev_range, ev_var, ev_c, ev_op, ev_un, ev_args, ev_nil, ev_cons, ev_frz, ev_b, ev_and, ev_or, ev_not, ev_andV, ev_orV, ev_notV, ev_if, ev_chain, ev_isi, ev_ixOwn, ev_lenOwn, ev_call, ev_callK, ev_sl, ev_part, ev_true, ev_nm, ev_toB, frz, frzAt, toSeq_tup, toSeq_pt, toSeq_lst, toSeq_cl, toRet, mWipe, kbG, Mir.gTup, Mir.gLst, List.getElem?_cons_zero, List.getElem?_cons_succ, List.set_cons_zero, List.set_cons_succ, List.length_cons, List.length_nil, List.append_nil, List.nil_append, List.cons_append, Nat.reduceAdd, Nat.reduceLeDiff, Nat.reduceEqDiff, Nat.zero_add, reduceIte, Bool.false_eq_true, Bool.not_true, Bool.not_false, and_self, sizeM_eq, ev_make, ev_isiC, ev_sortD, ev_key, ev_join, ev_shr, ev_disp, ev_dput, ev_tru, gTru, cz0, cz1, cz2, cz3, cz4, Nat.reduceLT, Int.reduceEq, Int.reduceLT, Int.reduceLE, Int.reduceAdd, decide_true, decide_false, eqD_int, neD_int, eqD_str, neD_str, _root_.eq_self, len_tup, len_pt, len_lst, len_cl, lenR, lenC, sqC, unpt_cel, addA_int, addA_tup, addA_lst, mulA_int, mul_int, sub_int, lt_int, le_int, gt_int, geA_int, neg_int, int_int, tuple_lst, tuple_tup, tupleP_lst, tupleP_pt, ev_asT, setS_obj, unpt_pt, unpt_tup, unpt_non, list_tup, list_lst, in_own, ev_lc2, ev_dget2, ev_dget1, ev_dsetd, ev_putE, ev_appE, ev_newD, ev_fldO, ev_fldPut, ev_makeO, ev_listRv, ev_while, ev_gs, ev_gs0, ev_seqB, ev_callO, ev_indexT, wp_ok, wp_def, lq_nx, lq_ct, lq_bk, lq_rt, rho0, List.map_cons, List.map_nil, List.replicate, Nat.sub_self, Nat.reduceSub, $ls,*])
end Mir
set_option maxHeartbeats 4000000
namespace Mir
open PySem L2 MirCg
local macro_rules | `(tactic| dsimp! [$ls,*]) => `(tactic| simp only [ev_bindExc, ev_asg, ev_unTup, ev_unLst, ev_tupM, ev_gsCons, ev_gsNil, ev_raise, ev_tryL, ev_tryOk, ev_tryExc, ev_tryB, ev_tryBOk, ev_tryBExc, endS_rtE, endS_nxE, ev_kin, ev_kget, ev_index, eqD_int, neD_int, ek_fldI, fz_ties, fz_cells, fz_book, fz_rels, fz_rows, fz_size, ev_bind, ev_nox, ek_seq, k_nx, k_ct, k_bk, k_rt, bind_as, ev_set, ev_setOwn, ev_share, ev_drop, ev_ret, ev_retOwn, ev_skip, ev_brk, ev_cnt, ek_ifS, k_t, k_f, ev_frzS, ev_append, ev_setIx, ev_for, ev_lc, ev_seqOf, ev_range, ev_var, ev_c, ev_op, ev_un, ev_args, ev_nil, ev_cons, ev_frz, ev_b, ev_and, ev_or, ev_not, ev_andV, ev_orV, ev_notV, ev_if, ev_chain, ev_isi, ev_ixOwn, ev_lenOwn, ev_call, ev_callK, ev_sl, ev_part, ev_true, ev_nm, ev_toB, frz, frzAt, toSeq_tup, toSeq_pt, toSeq_lst, toSeq_cl, toRet, mWipe, kbG, Mir.gTup, Mir.gLst, List.getElem?_cons_zero, List.getElem?_cons_succ, List.set_cons_zero, List.set_cons_succ, List.length_cons, List.length_nil, List.append_nil, List.nil_append, List.cons_append, Nat.reduceAdd, Nat.reduceLeDiff, Nat.reduceEqDiff, Nat.zero_add, reduceIte, Bool.false_eq_true, Bool.not_true, Bool.not_false, and_self, sizeM_eq, ev_make, ev_isiC, ev_sortD, ev_key, ev_join, ev_shr, ev_disp, ev_dput, ev_tru, gTru, cz0, cz1, cz2, cz3, cz4, Nat.reduceLT, Int.reduceEq, Int.reduceLT, Int.reduceLE, Int.reduceAdd, decide_true, decide_false, eqD_int, neD_int, eqD_str, neD_str, _root_.eq_self, len_tup, len_pt, len_lst, len_cl, lenR, lenC, sqC, unpt_cel, addA_int, addA_tup, addA_lst, mulA_int, mul_int, sub_int, lt_int, le_int, gt_int, geA_int, neg_int, int_int, tuple_lst, tuple_tup, tupleP_lst, tupleP_pt, ev_asT, setS_obj, unpt_pt, unpt_tup, unpt_non, list_tup, list_lst, in_own, ev_lc2, ev_dget2, ev_dget1, ev_dsetd, ev_putE, ev_appE, ev_newD, ev_fldO, ev_fldPut, ev_makeO, ev_listRv, ev_while, ev_gs, ev_gs0, ev_seqB, ev_callO, ev_indexT, wp_ok, wp_def, lq_nx, lq_ct, lq_bk, lq_rt, rho0, List.map_cons, List.map_nil, List.replicate, Nat.sub_self, Nat.reduceSub, $ls,*])
end Mir
set_option maxHeartbeats 4000000
namespace Mir
open PySem L2 MirCg
local macro_rules | `(tactic| dsimp! [$ls,*]) => `(tactic| simp only [ev_bindExc, ev_asg, ev_unTup, ev_unLst, ev_tupM, ev_gsCons, ev_gsNil, ev_raise, ev_tryL, ev_tryOk, ev_tryExc, ev_tryB, ev_tryBOk, ev_tryBExc, endS_rtE, endS_nxE, ev_kin, ev_kget, ev_index, eqD_int, neD_int, ek_fldI, fz_ties, fz_cells, fz_book, fz_rels, fz_rows, fz_size, ev_bind, ev_nox, ek_seq, k_nx, k_ct, k_bk, k_rt, bind_as, ev_set, ev_setOwn, ev_share, ev_drop, ev_ret, ev_retOwn, ev_skip, ev_brk, ev_cnt, ek_ifS, k_t, k_f, ev_frzS, ev_append, ev_setIx, ev_for, ev_lc, ev_seqOf, ev_range, ev_var, ev_c, ev_op, ev_un, ev_args, ev_nil, ev_cons, ev_frz, ev_b, ev_and, ev_or, ev_not, ev_andV, ev_orV, ev_notV, ev_if, ev_chain, ev_isi, ev_ixOwn, ev_lenOwn, ev_call, ev_callK, ev_sl, ev_part, ev_true, ev_nm, ev_toB, frz, frzAt, toSeq_tup, toSeq_pt, toSeq_lst, toSeq_cl, toRet, mWipe, kbG, Mir.gTup, Mir.gLst, List.getElem?_cons_zero, List.getElem?_cons_succ, List.set_cons_zero, List.set_cons_succ, List.length_cons, List.length_nil, List.append_nil, List.nil_append, List.cons_append, Nat.reduceAdd, Nat.reduceLeDiff, Nat.reduceEqDiff, Nat.zero_add, reduceIte, Bool.false_eq_true, Bool.not_true, Bool.not_false, and_self, sizeM_eq, ev_make, ev_isiC, ev_sortD, ev_key, ev_join, ev_shr, ev_disp, ev_dput, ev_tru, gTru, cz0, cz1, cz2, cz3, cz4, Nat.reduceLT, Int.reduceEq, Int.reduceLT, Int.reduceLE, Int.reduceAdd, decide_true, decide_false, eqD_int, neD_int, eqD_str, neD_str, _root_.eq_self, len_tup, len_pt, len_lst, len_cl, lenR, lenC, sqC, unpt_cel, addA_int, addA_tup, addA_lst, mulA_int, mul_int, sub_int, lt_int, le_int, gt_int, geA_int, neg_int, int_int, tuple_lst, tuple_tup, tupleP_lst, tupleP_pt, ev_asT, setS_obj, unpt_pt, unpt_tup, unpt_non, list_tup, list_lst, in_own, ev_lc2, ev_dget2, ev_dget1, ev_dsetd, ev_putE, ev_appE, ev_newD, ev_fldO, ev_fldPut, ev_makeO, ev_listRv, ev_while, ev_gs, ev_gs0, ev_seqB, ev_callO, ev_indexT, wp_ok, wp_def, lq_nx, lq_ct, lq_bk, lq_rt, rho0, List.map_cons, List.map_nil, List.replicate, Nat.sub_self, Nat.reduceSub, $ls,*])
end Mir
set_option maxHeartbeats 4000000
namespace Mir
open PySem L2 MirCg
structure OkC (t : Tie) (cs : List Int) : Prop where
  pw : cs.Pairwise fun a b => a < b
  mem : ∀ c ∈ cs, c ∈ t.2
end Mir
set_option maxHeartbeats 4000000
namespace Mir
open PySem L2 MirCg
local macro_rules | `(tactic| dsimp! [$ls,*]) => `(tactic| simp only [ev_bindExc, ev_asg, ev_unTup, ev_unLst, ev_tupM, ev_gsCons, ev_gsNil, ev_raise, ev_tryL, ev_tryOk, ev_tryExc, ev_tryB, ev_tryBOk, ev_tryBExc, endS_rtE, endS_nxE, ev_kin, ev_kget, ev_index, eqD_int, neD_int, ek_fldI, fz_ties, fz_cells, fz_book, fz_rels, fz_rows, fz_size, ev_bind, ev_nox, ek_seq, k_nx, k_ct, k_bk, k_rt, bind_as, ev_set, ev_setOwn, ev_share, ev_drop, ev_ret, ev_retOwn, ev_skip, ev_brk, ev_cnt, ek_ifS, k_t, k_f, ev_frzS, ev_append, ev_setIx, ev_for, ev_lc, ev_seqOf, ev_range, ev_var, ev_c, ev_op, ev_un, ev_args, ev_nil, ev_cons, ev_frz, ev_b, ev_and, ev_or, ev_not, ev_andV, ev_orV, ev_notV, ev_if, ev_chain, ev_isi, ev_ixOwn, ev_lenOwn, ev_call, ev_callK, ev_sl, ev_part, ev_true, ev_nm, ev_toB, frz, frzAt, toSeq_tup, toSeq_pt, toSeq_lst, toSeq_cl, toRet, mWipe, kbG, Mir.gTup, Mir.gLst, List.getElem?_cons_zero, List.getElem?_cons_succ, List.set_cons_zero, List.set_cons_succ, List.length_cons, List.length_nil, List.append_nil, List.nil_append, List.cons_append, Nat.reduceAdd, Nat.reduceLeDiff, Nat.reduceEqDiff, Nat.zero_add, reduceIte, Bool.false_eq_true, Bool.not_true, Bool.not_false, and_self, sizeM_eq, ev_make, ev_isiC, ev_sortD, ev_key, ev_join, ev_shr, ev_disp, ev_dput, ev_tru, gTru, cz0, cz1, cz2, cz3, cz4, Nat.reduceLT, Int.reduceEq, Int.reduceLT, Int.reduceLE, Int.reduceAdd, decide_true, decide_false, eqD_int, neD_int, eqD_str, neD_str, _root_.eq_self, len_tup, len_pt, len_lst, len_cl, lenR, lenC, sqC, unpt_cel, addA_int, addA_tup, addA_lst, mulA_int, mul_int, sub_int, lt_int, le_int, gt_int, geA_int, neg_int, int_int, tuple_lst, tuple_tup, tupleP_lst, tupleP_pt, ev_asT, setS_obj, unpt_pt, unpt_tup, unpt_non, list_tup, list_lst, in_own, ev_lc2, ev_dget2, ev_dget1, ev_dsetd, ev_putE, ev_appE, ev_newD, ev_fldO, ev_fldPut, ev_makeO, ev_listRv, ev_while, ev_gs, ev_gs0, ev_seqB, ev_callO, ev_indexT, wp_ok, wp_def, lq_nx, lq_ct, lq_bk, lq_rt, rho0, List.map_cons, List.map_nil, List.replicate, Nat.sub_self, Nat.reduceSub, $ls,*])
end Mir
set_option maxHeartbeats 4000000
namespace Mir
open PySem L2 MirCg
/-- no tuple longer than 20000 -/
def ShoN : Nat → PV → Prop
  | 0, _ => True
  | k + 1, .tup xs => xs.length ≤ 20000 ∧ ∀ x ∈ xs, ShoN k x
  | _ + 1, _ => True
def Sho (v : PV) : Prop := ∀ k, ShoN k v
theorem Sho.len {xs : List PV} (h : Sho (.tup xs)) : xs.length ≤ 20000 := (h 1).1
theorem Sho.tup {xs : List PV} (h : Sho (.tup xs)) : ∀ x ∈ xs, Sho x := fun x hx k => (h (k + 1)).2 x hx
theorem OkC.len {t : Tie} {cs : List Int} (h : OkC t cs) : cs.length ≤ t.2.length := nodup_len cs t.2 (h.pw.imp fun a b => by omega) h.mem
end Mir
set_option maxHeartbeats 4000000
namespace Mir
open PySem L2 MirCg
local macro_rules | `(tactic| dsimp! [$ls,*]) => `(tactic| simp only [ev_bindExc, ev_asg, ev_unTup, ev_unLst, ev_tupM, ev_gsCons, ev_gsNil, ev_raise, ev_tryL, ev_tryOk, ev_tryExc, ev_tryB, ev_tryBOk, ev_tryBExc, endS_rtE, endS_nxE, ev_kin, ev_kget, ev_index, eqD_int, neD_int, ek_fldI, fz_ties, fz_cells, fz_book, fz_rels, fz_rows, fz_size, ev_bind, ev_nox, ek_seq, k_nx, k_ct, k_bk, k_rt, bind_as, ev_set, ev_setOwn, ev_share, ev_drop, ev_ret, ev_retOwn, ev_skip, ev_brk, ev_cnt, ek_ifS, k_t, k_f, ev_frzS, ev_append, ev_setIx, ev_for, ev_lc, ev_seqOf, ev_range, ev_var, ev_c, ev_op, ev_un, ev_args, ev_nil, ev_cons, ev_frz, ev_b, ev_and, ev_or, ev_not, ev_andV, ev_orV, ev_notV, ev_if, ev_chain, ev_isi, ev_ixOwn, ev_lenOwn, ev_call, ev_callK, ev_sl, ev_part, ev_true, ev_nm, ev_toB, frz, frzAt, toSeq_tup, toSeq_pt, toSeq_lst, toSeq_cl, toRet, mWipe, kbG, Mir.gTup, Mir.gLst, List.getElem?_cons_zero, List.getElem?_cons_succ, List.set_cons_zero, List.set_cons_succ, List.length_cons, List.length_nil, List.append_nil, List.nil_append, List.cons_append, Nat.reduceAdd, Nat.reduceLeDiff, Nat.reduceEqDiff, Nat.zero_add, reduceIte, Bool.false_eq_true, Bool.not_true, Bool.not_false, and_self, sizeM_eq, ev_make, ev_isiC, ev_sortD, ev_key, ev_join, ev_shr, ev_disp, ev_dput, ev_tru, gTru, cz0, cz1, cz2, cz3, cz4, Nat.reduceLT, Int.reduceEq, Int.reduceLT, Int.reduceLE, Int.reduceAdd, decide_true, decide_false, eqD_int, neD_int, eqD_str, neD_str, _root_.eq_self, len_tup, len_pt, len_lst, len_cl, lenR, lenC, sqC, unpt_cel, addA_int, addA_tup, addA_lst, mulA_int, mul_int, sub_int, lt_int, le_int, gt_int, geA_int, neg_int, int_int, tuple_lst, tuple_tup, tupleP_lst, tupleP_pt, ev_asT, setS_obj, unpt_pt, unpt_tup, unpt_non, list_tup, list_lst, in_own, ev_lc2, ev_dget2, ev_dget1, ev_dsetd, ev_putE, ev_appE, ev_newD, ev_fldO, ev_fldPut, ev_makeO, ev_listRv, ev_while, ev_gs, ev_gs0, ev_seqB, ev_callO, ev_indexT, wp_ok, wp_def, lq_nx, lq_ct, lq_bk, lq_rt, rho0, List.map_cons, List.map_nil, List.replicate, Nat.sub_self, Nat.reduceSub, $ls,*])
section
variable {fa : Rho → Store → Res (List PV)} {ρ : Rho} {S : Store}
end
end Mir
set_option maxHeartbeats 4000000
namespace Mir
open PySem L2 MirCg
local macro_rules | `(tactic| dsimp! [$ls,*]) => `(tactic| simp only [ev_bindExc, ev_asg, ev_unTup, ev_unLst, ev_tupM, ev_gsCons, ev_gsNil, ev_raise, ev_tryL, ev_tryOk, ev_tryExc, ev_tryB, ev_tryBOk, ev_tryBExc, endS_rtE, endS_nxE, ev_kin, ev_kget, ev_index, eqD_int, neD_int, ek_fldI, fz_ties, fz_cells, fz_book, fz_rels, fz_rows, fz_size, ev_bind, ev_nox, ek_seq, k_nx, k_ct, k_bk, k_rt, bind_as, ev_set, ev_setOwn, ev_share, ev_drop, ev_ret, ev_retOwn, ev_skip, ev_brk, ev_cnt, ek_ifS, k_t, k_f, ev_frzS, ev_append, ev_setIx, ev_for, ev_lc, ev_seqOf, ev_range, ev_var, ev_c, ev_op, ev_un, ev_args, ev_nil, ev_cons, ev_frz, ev_b, ev_and, ev_or, ev_not, ev_andV, ev_orV, ev_notV, ev_if, ev_chain, ev_isi, ev_ixOwn, ev_lenOwn, ev_call, ev_callK, ev_sl, ev_part, ev_true, ev_nm, ev_toB, frz, frzAt, toSeq_tup, toSeq_pt, toSeq_lst, toSeq_cl, toRet, mWipe, kbG, Mir.gTup, Mir.gLst, List.getElem?_cons_zero, List.getElem?_cons_succ, List.set_cons_zero, List.set_cons_succ, List.length_cons, List.length_nil, List.append_nil, List.nil_append, List.cons_append, Nat.reduceAdd, Nat.reduceLeDiff, Nat.reduceEqDiff, Nat.zero_add, reduceIte, Bool.false_eq_true, Bool.not_true, Bool.not_false, and_self, sizeM_eq, ev_make, ev_isiC, ev_sortD, ev_key, ev_join, ev_shr, ev_disp, ev_dput, ev_tru, gTru, cz0, cz1, cz2, cz3, cz4, Nat.reduceLT, Int.reduceEq, Int.reduceLT, Int.reduceLE, Int.reduceAdd, decide_true, decide_false, eqD_int, neD_int, eqD_str, neD_str, _root_.eq_self, len_tup, len_pt, len_lst, len_cl, lenR, lenC, sqC, unpt_cel, addA_int, addA_tup, addA_lst, mulA_int, mul_int, sub_int, lt_int, le_int, gt_int, geA_int, neg_int, int_int, tuple_lst, tuple_tup, tupleP_lst, tupleP_pt, ev_asT, setS_obj, unpt_pt, unpt_tup, unpt_non, list_tup, list_lst, in_own, ev_lc2, ev_dget2, ev_dget1, ev_dsetd, ev_putE, ev_appE, ev_newD, ev_fldO, ev_fldPut, ev_makeO, ev_listRv, ev_while, ev_gs, ev_gs0, ev_seqB, ev_callO, ev_indexT, wp_ok, wp_def, lq_nx, lq_ct, lq_bk, lq_rt, rho0, List.map_cons, List.map_nil, List.replicate, Nat.sub_self, Nat.reduceSub, $ls,*])
end Mir
set_option maxHeartbeats 4000000
namespace Mir
open PySem L2 MirCg
section
variable {rels : List Rl} {cc : Nat} {ts : List Tie} {g : Int → Option Int}
end
theorem StOk.len {cc : Nat} {st : List (Nat × Int)} (h : StOk cc st) : st.length ≤ cc := by
  have := nodup_len (st.map Prod.fst) (List.range cc) h.nd fun x hx => by
    obtain ⟨p, hp, rfl⟩ := List.mem_map.mp hx
    exact List.mem_range.mpr (h.bits p hp).1
  rw [List.length_map, List.length_range] at this
  exact this
end Mir
set_option maxHeartbeats 4000000
namespace Mir
open PySem L2 MirCg
local macro_rules | `(tactic| dsimp! [$ls,*]) => `(tactic| simp only [ev_bindExc, ev_asg, ev_unTup, ev_unLst, ev_tupM, ev_gsCons, ev_gsNil, ev_raise, ev_tryL, ev_tryOk, ev_tryExc, ev_tryB, ev_tryBOk, ev_tryBExc, endS_rtE, endS_nxE, ev_kin, ev_kget, ev_index, eqD_int, neD_int, ek_fldI, fz_ties, fz_cells, fz_book, fz_rels, fz_rows, fz_size, ev_bind, ev_nox, ek_seq, k_nx, k_ct, k_bk, k_rt, bind_as, ev_set, ev_setOwn, ev_share, ev_drop, ev_ret, ev_retOwn, ev_skip, ev_brk, ev_cnt, ek_ifS, k_t, k_f, ev_frzS, ev_append, ev_setIx, ev_for, ev_lc, ev_seqOf, ev_range, ev_var, ev_c, ev_op, ev_un, ev_args, ev_nil, ev_cons, ev_frz, ev_b, ev_and, ev_or, ev_not, ev_andV, ev_orV, ev_notV, ev_if, ev_chain, ev_isi, ev_ixOwn, ev_lenOwn, ev_call, ev_callK, ev_sl, ev_part, ev_true, ev_nm, ev_toB, frz, frzAt, toSeq_tup, toSeq_pt, toSeq_lst, toSeq_cl, toRet, mWipe, kbG, Mir.gTup, Mir.gLst, List.getElem?_cons_zero, List.getElem?_cons_succ, List.set_cons_zero, List.set_cons_succ, List.length_cons, List.length_nil, List.append_nil, List.nil_append, List.cons_append, Nat.reduceAdd, Nat.reduceLeDiff, Nat.reduceEqDiff, Nat.zero_add, reduceIte, Bool.false_eq_true, Bool.not_true, Bool.not_false, and_self, sizeM_eq, ev_make, ev_isiC, ev_sortD, ev_key, ev_join, ev_shr, ev_disp, ev_dput, ev_tru, gTru, cz0, cz1, cz2, cz3, cz4, Nat.reduceLT, Int.reduceEq, Int.reduceLT, Int.reduceLE, Int.reduceAdd, decide_true, decide_false, eqD_int, neD_int, eqD_str, neD_str, _root_.eq_self, len_tup, len_pt, len_lst, len_cl, lenR, lenC, sqC, unpt_cel, addA_int, addA_tup, addA_lst, mulA_int, mul_int, sub_int, lt_int, le_int, gt_int, geA_int, neg_int, int_int, tuple_lst, tuple_tup, tupleP_lst, tupleP_pt, ev_asT, setS_obj, unpt_pt, unpt_tup, unpt_non, list_tup, list_lst, in_own, ev_lc2, ev_dget2, ev_dget1, ev_dsetd, ev_putE, ev_appE, ev_newD, ev_fldO, ev_fldPut, ev_makeO, ev_listRv, ev_while, ev_gs, ev_gs0, ev_seqB, ev_callO, ev_indexT, wp_ok, wp_def, lq_nx, lq_ct, lq_bk, lq_rt, rho0, List.map_cons, List.map_nil, List.replicate, Nat.sub_self, Nat.reduceSub, $ls,*])
section
variable {rels : List Rl} {cc : Nat} {ts : List Tie} {g : Int → Option Int}
end
end Mir
set_option maxHeartbeats 4000000
namespace Mir
open PySem L2 MirCg
/-- what left holds: the parity of each cell so far -/
def Par (f : Fx) (seen : List Int) : Prop := ∀ c, (getF f c).getD 0 = ((seen.count c : Nat) : Int) % 2
theorem Par.put {f : Fx} {seen : List Int} (h : Par f seen) (c : Int) : Par (putF f c (1 - (getF f c).getD 0)) (seen ++ [c]) := fun d => by
  rw [get_put, List.count_append]
  unfold updG
  by_cases e : d = c
  · subst e
    rw [if_pos rfl]
    have := h d
    have o : [d].count d = 1 := by simp
    rw [o]
    show 1 - (getF f d).getD 0 = _
    omega
  · rw [if_neg e, h d]
    have o : [c].count d = 0 := List.count_eq_zero.mpr fun m => e (List.mem_singleton.mp m)
    rw [o, Nat.add_zero]
end Mir
set_option maxHeartbeats 4000000
namespace Mir
open PySem L2 MirCg
local macro_rules | `(tactic| dsimp! [$ls,*]) => `(tactic| simp only [ev_bindExc, ev_asg, ev_unTup, ev_unLst, ev_tupM, ev_gsCons, ev_gsNil, ev_raise, ev_tryL, ev_tryOk, ev_tryExc, ev_tryB, ev_tryBOk, ev_tryBExc, endS_rtE, endS_nxE, ev_kin, ev_kget, ev_index, eqD_int, neD_int, ek_fldI, fz_ties, fz_cells, fz_book, fz_rels, fz_rows, fz_size, ev_bind, ev_nox, ek_seq, k_nx, k_ct, k_bk, k_rt, bind_as, ev_set, ev_setOwn, ev_share, ev_drop, ev_ret, ev_retOwn, ev_skip, ev_brk, ev_cnt, ek_ifS, k_t, k_f, ev_frzS, ev_append, ev_setIx, ev_for, ev_lc, ev_seqOf, ev_range, ev_var, ev_c, ev_op, ev_un, ev_args, ev_nil, ev_cons, ev_frz, ev_b, ev_and, ev_or, ev_not, ev_andV, ev_orV, ev_notV, ev_if, ev_chain, ev_isi, ev_ixOwn, ev_lenOwn, ev_call, ev_callK, ev_sl, ev_part, ev_true, ev_nm, ev_toB, frz, frzAt, toSeq_tup, toSeq_pt, toSeq_lst, toSeq_cl, toRet, mWipe, kbG, Mir.gTup, Mir.gLst, List.getElem?_cons_zero, List.getElem?_cons_succ, List.set_cons_zero, List.set_cons_succ, List.length_cons, List.length_nil, List.append_nil, List.nil_append, List.cons_append, Nat.reduceAdd, Nat.reduceLeDiff, Nat.reduceEqDiff, Nat.zero_add, reduceIte, Bool.false_eq_true, Bool.not_true, Bool.not_false, and_self, sizeM_eq, ev_make, ev_isiC, ev_sortD, ev_key, ev_join, ev_shr, ev_disp, ev_dput, ev_tru, gTru, cz0, cz1, cz2, cz3, cz4, Nat.reduceLT, Int.reduceEq, Int.reduceLT, Int.reduceLE, Int.reduceAdd, decide_true, decide_false, eqD_int, neD_int, eqD_str, neD_str, _root_.eq_self, len_tup, len_pt, len_lst, len_cl, lenR, lenC, sqC, unpt_cel, addA_int, addA_tup, addA_lst, mulA_int, mul_int, sub_int, lt_int, le_int, gt_int, geA_int, neg_int, int_int, tuple_lst, tuple_tup, tupleP_lst, tupleP_pt, ev_asT, setS_obj, unpt_pt, unpt_tup, unpt_non, list_tup, list_lst, in_own, ev_lc2, ev_dget2, ev_dget1, ev_dsetd, ev_putE, ev_appE, ev_newD, ev_fldO, ev_fldPut, ev_makeO, ev_listRv, ev_while, ev_gs, ev_gs0, ev_seqB, ev_callO, ev_indexT, wp_ok, wp_def, lq_nx, lq_ct, lq_bk, lq_rt, rho0, List.map_cons, List.map_nil, List.replicate, Nat.sub_self, Nat.reduceSub, $ls,*])
theorem put_keys {f : Fx} {c v w : Int} (h : getF f c = some w) : (putF f c v).map Prod.fst = f.map Prod.fst := by
  unfold putF
  rw [get_any, h]
  show (f.map fun p => if p.1 = c then (p.1, v) else p).map Prod.fst = _
  rw [List.map_map]
  refine List.map_congr_left fun p _ => ?_
  show (if p.1 = c then (p.1, v) else p).1 = p.1
  by_cases e : p.1 = c
  · rw [if_pos e]
  · rw [if_neg e]
theorem FxOk.set {cc : Nat} {f : Fx} (h : FxOk cc f) {c v : Int} (h0 : 0 ≤ c) (h1 : c < (cc : Int)) (hv : v = 0 ∨ v = 1) : FxOk cc (putF f c v) := by
  cases q : getF f c with
  | none => exact h.put q h0 h1 hv
  | some w =>
    constructor
    · rw [put_keys q]
      exact h.nd
    · intro p hp
      have e : putF f c v = f.map fun p => if p.1 = c then (p.1, v) else p := by
        unfold putF
        rw [get_any, q]
        rfl
      rw [e] at hp
      obtain ⟨p', hp', rfl⟩ := List.mem_map.mp hp
      have := h.ok p' hp'
      by_cases z : p'.1 = c
      · rw [if_pos z]
        exact ⟨this.1, this.2.1, hv⟩
      · rw [if_neg z]
        exact this
end Mir
set_option maxHeartbeats 4000000
namespace Mir
open PySem L2 MirCg
local macro_rules | `(tactic| dsimp! [$ls,*]) => `(tactic| simp only [ev_bindExc, ev_asg, ev_unTup, ev_unLst, ev_tupM, ev_gsCons, ev_gsNil, ev_raise, ev_tryL, ev_tryOk, ev_tryExc, ev_tryB, ev_tryBOk, ev_tryBExc, endS_rtE, endS_nxE, ev_kin, ev_kget, ev_index, eqD_int, neD_int, ek_fldI, fz_ties, fz_cells, fz_book, fz_rels, fz_rows, fz_size, ev_bind, ev_nox, ek_seq, k_nx, k_ct, k_bk, k_rt, bind_as, ev_set, ev_setOwn, ev_share, ev_drop, ev_ret, ev_retOwn, ev_skip, ev_brk, ev_cnt, ek_ifS, k_t, k_f, ev_frzS, ev_append, ev_setIx, ev_for, ev_lc, ev_seqOf, ev_range, ev_var, ev_c, ev_op, ev_un, ev_args, ev_nil, ev_cons, ev_frz, ev_b, ev_and, ev_or, ev_not, ev_andV, ev_orV, ev_notV, ev_if, ev_chain, ev_isi, ev_ixOwn, ev_lenOwn, ev_call, ev_callK, ev_sl, ev_part, ev_true, ev_nm, ev_toB, frz, frzAt, toSeq_tup, toSeq_pt, toSeq_lst, toSeq_cl, toRet, mWipe, kbG, Mir.gTup, Mir.gLst, List.getElem?_cons_zero, List.getElem?_cons_succ, List.set_cons_zero, List.set_cons_succ, List.length_cons, List.length_nil, List.append_nil, List.nil_append, List.cons_append, Nat.reduceAdd, Nat.reduceLeDiff, Nat.reduceEqDiff, Nat.zero_add, reduceIte, Bool.false_eq_true, Bool.not_true, Bool.not_false, and_self, sizeM_eq, ev_make, ev_isiC, ev_sortD, ev_key, ev_join, ev_shr, ev_disp, ev_dput, ev_tru, gTru, cz0, cz1, cz2, cz3, cz4, Nat.reduceLT, Int.reduceEq, Int.reduceLT, Int.reduceLE, Int.reduceAdd, decide_true, decide_false, eqD_int, neD_int, eqD_str, neD_str, _root_.eq_self, len_tup, len_pt, len_lst, len_cl, lenR, lenC, sqC, unpt_cel, addA_int, addA_tup, addA_lst, mulA_int, mul_int, sub_int, lt_int, le_int, gt_int, geA_int, neg_int, int_int, tuple_lst, tuple_tup, tupleP_lst, tupleP_pt, ev_asT, setS_obj, unpt_pt, unpt_tup, unpt_non, list_tup, list_lst, in_own, ev_lc2, ev_dget2, ev_dget1, ev_dsetd, ev_putE, ev_appE, ev_newD, ev_fldO, ev_fldPut, ev_makeO, ev_listRv, ev_while, ev_gs, ev_gs0, ev_seqB, ev_callO, ev_indexT, wp_ok, wp_def, lq_nx, lq_ct, lq_bk, lq_rt, rho0, List.map_cons, List.map_nil, List.replicate, Nat.sub_self, Nat.reduceSub, $ls,*])
end Mir
set_option maxHeartbeats 4000000
namespace Mir
open PySem L2 MirCg
local macro_rules | `(tactic| dsimp! [$ls,*]) => `(tactic| simp only [ev_bindExc, ev_asg, ev_unTup, ev_unLst, ev_tupM, ev_gsCons, ev_gsNil, ev_raise, ev_tryL, ev_tryOk, ev_tryExc, ev_tryB, ev_tryBOk, ev_tryBExc, endS_rtE, endS_nxE, ev_kin, ev_kget, ev_index, eqD_int, neD_int, ek_fldI, fz_ties, fz_cells, fz_book, fz_rels, fz_rows, fz_size, ev_bind, ev_nox, ek_seq, k_nx, k_ct, k_bk, k_rt, bind_as, ev_set, ev_setOwn, ev_share, ev_drop, ev_ret, ev_retOwn, ev_skip, ev_brk, ev_cnt, ek_ifS, k_t, k_f, ev_frzS, ev_append, ev_setIx, ev_for, ev_lc, ev_seqOf, ev_range, ev_var, ev_c, ev_op, ev_un, ev_args, ev_nil, ev_cons, ev_frz, ev_b, ev_and, ev_or, ev_not, ev_andV, ev_orV, ev_notV, ev_if, ev_chain, ev_isi, ev_ixOwn, ev_lenOwn, ev_call, ev_callK, ev_sl, ev_part, ev_true, ev_nm, ev_toB, frz, frzAt, toSeq_tup, toSeq_pt, toSeq_lst, toSeq_cl, toRet, mWipe, kbG, Mir.gTup, Mir.gLst, List.getElem?_cons_zero, List.getElem?_cons_succ, List.set_cons_zero, List.set_cons_succ, List.length_cons, List.length_nil, List.append_nil, List.nil_append, List.cons_append, Nat.reduceAdd, Nat.reduceLeDiff, Nat.reduceEqDiff, Nat.zero_add, reduceIte, Bool.false_eq_true, Bool.not_true, Bool.not_false, and_self, sizeM_eq, ev_make, ev_isiC, ev_sortD, ev_key, ev_join, ev_shr, ev_disp, ev_dput, ev_tru, gTru, cz0, cz1, cz2, cz3, cz4, Nat.reduceLT, Int.reduceEq, Int.reduceLT, Int.reduceLE, Int.reduceAdd, decide_true, decide_false, eqD_int, neD_int, eqD_str, neD_str, _root_.eq_self, len_tup, len_pt, len_lst, len_cl, lenR, lenC, sqC, unpt_cel, addA_int, addA_tup, addA_lst, mulA_int, mul_int, sub_int, lt_int, le_int, gt_int, geA_int, neg_int, int_int, tuple_lst, tuple_tup, tupleP_lst, tupleP_pt, ev_asT, setS_obj, unpt_pt, unpt_tup, unpt_non, list_tup, list_lst, in_own, ev_lc2, ev_dget2, ev_dget1, ev_dsetd, ev_putE, ev_appE, ev_newD, ev_fldO, ev_fldPut, ev_makeO, ev_listRv, ev_while, ev_gs, ev_gs0, ev_seqB, ev_callO, ev_indexT, wp_ok, wp_def, lq_nx, lq_ct, lq_bk, lq_rt, rho0, List.map_cons, List.map_nil, List.replicate, Nat.sub_self, Nat.reduceSub, $ls,*])
end Mir
set_option maxHeartbeats 4000000
namespace Mir
open PySem L2 MirCg
local macro_rules | `(tactic| dsimp! [$ls,*]) => `(tactic| simp only [ev_bindExc, ev_asg, ev_unTup, ev_unLst, ev_tupM, ev_gsCons, ev_gsNil, ev_raise, ev_tryL, ev_tryOk, ev_tryExc, ev_tryB, ev_tryBOk, ev_tryBExc, endS_rtE, endS_nxE, ev_kin, ev_kget, ev_index, eqD_int, neD_int, ek_fldI, fz_ties, fz_cells, fz_book, fz_rels, fz_rows, fz_size, ev_bind, ev_nox, ek_seq, k_nx, k_ct, k_bk, k_rt, bind_as, ev_set, ev_setOwn, ev_share, ev_drop, ev_ret, ev_retOwn, ev_skip, ev_brk, ev_cnt, ek_ifS, k_t, k_f, ev_frzS, ev_append, ev_setIx, ev_for, ev_lc, ev_seqOf, ev_range, ev_var, ev_c, ev_op, ev_un, ev_args, ev_nil, ev_cons, ev_frz, ev_b, ev_and, ev_or, ev_not, ev_andV, ev_orV, ev_notV, ev_if, ev_chain, ev_isi, ev_ixOwn, ev_lenOwn, ev_call, ev_callK, ev_sl, ev_part, ev_true, ev_nm, ev_toB, frz, frzAt, toSeq_tup, toSeq_pt, toSeq_lst, toSeq_cl, toRet, mWipe, kbG, Mir.gTup, Mir.gLst, List.getElem?_cons_zero, List.getElem?_cons_succ, List.set_cons_zero, List.set_cons_succ, List.length_cons, List.length_nil, List.append_nil, List.nil_append, List.cons_append, Nat.reduceAdd, Nat.reduceLeDiff, Nat.reduceEqDiff, Nat.zero_add, reduceIte, Bool.false_eq_true, Bool.not_true, Bool.not_false, and_self, sizeM_eq, ev_make, ev_isiC, ev_sortD, ev_key, ev_join, ev_shr, ev_disp, ev_dput, ev_tru, gTru, cz0, cz1, cz2, cz3, cz4, Nat.reduceLT, Int.reduceEq, Int.reduceLT, Int.reduceLE, Int.reduceAdd, decide_true, decide_false, eqD_int, neD_int, eqD_str, neD_str, _root_.eq_self, len_tup, len_pt, len_lst, len_cl, lenR, lenC, sqC, unpt_cel, addA_int, addA_tup, addA_lst, mulA_int, mul_int, sub_int, lt_int, le_int, gt_int, geA_int, neg_int, int_int, tuple_lst, tuple_tup, tupleP_lst, tupleP_pt, ev_asT, setS_obj, unpt_pt, unpt_tup, unpt_non, list_tup, list_lst, in_own, ev_lc2, ev_dget2, ev_dget1, ev_dsetd, ev_putE, ev_appE, ev_newD, ev_fldO, ev_fldPut, ev_makeO, ev_listRv, ev_while, ev_gs, ev_gs0, ev_seqB, ev_callO, ev_indexT, wp_ok, wp_def, lq_nx, lq_ct, lq_bk, lq_rt, rho0, List.map_cons, List.map_nil, List.replicate, Nat.sub_self, Nat.reduceSub, $ls,*])
end Mir
set_option maxHeartbeats 4000000
namespace Mir
open PySem L2 MirCg
local macro_rules | `(tactic| dsimp! [$ls,*]) => `(tactic| simp only [ev_bindExc, ev_asg, ev_unTup, ev_unLst, ev_tupM, ev_gsCons, ev_gsNil, ev_raise, ev_tryL, ev_tryOk, ev_tryExc, ev_tryB, ev_tryBOk, ev_tryBExc, endS_rtE, endS_nxE, ev_kin, ev_kget, ev_index, eqD_int, neD_int, ek_fldI, fz_ties, fz_cells, fz_book, fz_rels, fz_rows, fz_size, ev_bind, ev_nox, ek_seq, k_nx, k_ct, k_bk, k_rt, bind_as, ev_set, ev_setOwn, ev_share, ev_drop, ev_ret, ev_retOwn, ev_skip, ev_brk, ev_cnt, ek_ifS, k_t, k_f, ev_frzS, ev_append, ev_setIx, ev_for, ev_lc, ev_seqOf, ev_range, ev_var, ev_c, ev_op, ev_un, ev_args, ev_nil, ev_cons, ev_frz, ev_b, ev_and, ev_or, ev_not, ev_andV, ev_orV, ev_notV, ev_if, ev_chain, ev_isi, ev_ixOwn, ev_lenOwn, ev_call, ev_callK, ev_sl, ev_part, ev_true, ev_nm, ev_toB, frz, frzAt, toSeq_tup, toSeq_pt, toSeq_lst, toSeq_cl, toRet, mWipe, kbG, Mir.gTup, Mir.gLst, List.getElem?_cons_zero, List.getElem?_cons_succ, List.set_cons_zero, List.set_cons_succ, List.length_cons, List.length_nil, List.append_nil, List.nil_append, List.cons_append, Nat.reduceAdd, Nat.reduceLeDiff, Nat.reduceEqDiff, Nat.zero_add, reduceIte, Bool.false_eq_true, Bool.not_true, Bool.not_false, and_self, sizeM_eq, ev_make, ev_isiC, ev_sortD, ev_key, ev_join, ev_shr, ev_disp, ev_dput, ev_tru, gTru, cz0, cz1, cz2, cz3, cz4, Nat.reduceLT, Int.reduceEq, Int.reduceLT, Int.reduceLE, Int.reduceAdd, decide_true, decide_false, eqD_int, neD_int, eqD_str, neD_str, _root_.eq_self, len_tup, len_pt, len_lst, len_cl, lenR, lenC, sqC, unpt_cel, addA_int, addA_tup, addA_lst, mulA_int, mul_int, sub_int, lt_int, le_int, gt_int, geA_int, neg_int, int_int, tuple_lst, tuple_tup, tupleP_lst, tupleP_pt, ev_asT, setS_obj, unpt_pt, unpt_tup, unpt_non, list_tup, list_lst, in_own, ev_lc2, ev_dget2, ev_dget1, ev_dsetd, ev_putE, ev_appE, ev_newD, ev_fldO, ev_fldPut, ev_makeO, ev_listRv, ev_while, ev_gs, ev_gs0, ev_seqB, ev_callO, ev_indexT, wp_ok, wp_def, lq_nx, lq_ct, lq_bk, lq_rt, rho0, List.map_cons, List.map_nil, List.replicate, Nat.sub_self, Nat.reduceSub, $ls,*])
noncomputable section
end
end Mir
set_option maxHeartbeats 4000000
namespace Mir
open PySem L2 MirCg
noncomputable section
end
end Mir
set_option maxHeartbeats 4000000
namespace Mir
open PySem L2 MirCg
local macro_rules | `(tactic| simp_arith [$ls,*]) => `(tactic| simp only [ev_bindExc, ev_asg, ev_unTup, ev_unLst, ev_tupM, ev_gsCons, ev_gsNil, ev_raise, ev_tryL, ev_tryOk, ev_tryExc, ev_tryB, ev_tryBOk, ev_tryBExc, endS_rtE, endS_nxE, ev_kin, ev_kget, ev_index, eqD_int, neD_int, ek_fldI, fz_ties, fz_cells, fz_book, fz_rels, fz_rows, fz_size, ev_bind, ev_nox, ek_seq, k_nx, k_ct, k_bk, k_rt, bind_as, ev_set, ev_setOwn, ev_share, ev_drop, ev_ret, ev_retOwn, ev_skip, ev_brk, ev_cnt, ek_ifS, k_t, k_f, ev_frzS, ev_append, ev_setIx, ev_for, ev_lc, ev_seqOf, ev_range, ev_var, ev_c, ev_op, ev_un, ev_args, ev_nil, ev_cons, ev_frz, ev_b, ev_and, ev_or, ev_not, ev_andV, ev_orV, ev_notV, ev_if, ev_chain, ev_isi, ev_ixOwn, ev_lenOwn, ev_call, ev_callK, ev_sl, ev_part, ev_true, ev_nm, ev_toB, frz, frzAt, toSeq_tup, toSeq_pt, toSeq_lst, toSeq_cl, toRet, mWipe, kbG, Mir.gTup, Mir.gLst, List.getElem?_cons_zero, List.getElem?_cons_succ, List.set_cons_zero, List.set_cons_succ, List.length_cons, List.length_nil, List.append_nil, List.nil_append, List.cons_append, Nat.reduceAdd, Nat.reduceLeDiff, Nat.reduceEqDiff, Nat.zero_add, reduceIte, Bool.false_eq_true, Bool.not_true, Bool.not_false, and_self, sizeM_eq, ev_make, ev_isiC, ev_sortD, ev_key, ev_join, ev_shr, ev_disp, ev_dput, ev_tru, gTru, cz0, cz1, cz2, cz3, cz4, Nat.reduceLT, Int.reduceEq, Int.reduceLT, Int.reduceLE, Int.reduceAdd, decide_true, decide_false, eqD_int, neD_int, eqD_str, neD_str, _root_.eq_self, len_tup, len_pt, len_lst, len_cl, lenR, lenC, sqC, unpt_cel, addA_int, addA_tup, addA_lst, mulA_int, mul_int, sub_int, lt_int, le_int, gt_int, geA_int, neg_int, int_int, tuple_lst, tuple_tup, tupleP_lst, tupleP_pt, ev_asT, setS_obj, unpt_pt, unpt_tup, unpt_non, list_tup, list_lst, in_own, ev_lc2, ev_dget2, ev_dget1, ev_dsetd, ev_putE, ev_appE, ev_newD, ev_fldO, ev_fldPut, ev_makeO, ev_listRv, ev_while, ev_gs, ev_gs0, ev_seqB, ev_callO, ev_indexT, wp_ok, wp_def, lq_nx, lq_ct, lq_bk, lq_rt, rho0, List.map_cons, List.map_nil, List.replicate, Nat.sub_self, Nat.reduceSub, $ls,*])
theorem wp_gcR {m : List PV → Store → Res PV} {xs : List PV} {S : Store} {Q : PV → Store → Prop} (h : Wp (m xs S) fun y T => low S.length y = true ∧ lowS S.length (T.take S.length) = true ∧ Q y (T.take S.length)) : Wp (gcM m xs S) Q := by
  obtain ⟨y, T, e, l1, l2, q⟩ := h
  refine ⟨y, T.take S.length, ?_, q⟩
  unfold gcM gc
  rw [e]
  simp only [l1, l2, and_self, if_true]
section
variable {S T R : Store} {A B : SO}
theorem Hand.len (h : Hand S R) : S.length = R.length + 1 := by
  obtain ⟨ds, k, rfl, _⟩ := h
  rfl
theorem hand_lowR (h : Hand S R) {n : Nat} (hR : lowS n R = true) : lowS n S = true := by
  obtain ⟨ds, k, rfl, _, _⟩ := h
  have : lows n (ds.map PV.int) = true := lows_of fun x hx => by
    obtain ⟨d, _, rfl⟩ := List.mem_map.mp hx
    rfl
  show ((low n (.lst (ds.map PV.int)) && (true && true)) && lowS n R) = true
  have e : low n (.lst (ds.map PV.int)) = lows n (ds.map PV.int) := rfl
  rw [e, this, hR]
  rfl
end
end Mir
set_option maxHeartbeats 4000000
namespace Mir
open PySem L2 MirCg
local macro_rules | `(tactic| simp_arith [$ls,*]) => `(tactic| simp only [ev_bindExc, ev_asg, ev_unTup, ev_unLst, ev_tupM, ev_gsCons, ev_gsNil, ev_raise, ev_tryL, ev_tryOk, ev_tryExc, ev_tryB, ev_tryBOk, ev_tryBExc, endS_rtE, endS_nxE, ev_kin, ev_kget, ev_index, eqD_int, neD_int, ek_fldI, fz_ties, fz_cells, fz_book, fz_rels, fz_rows, fz_size, ev_bind, ev_nox, ek_seq, k_nx, k_ct, k_bk, k_rt, bind_as, ev_set, ev_setOwn, ev_share, ev_drop, ev_ret, ev_retOwn, ev_skip, ev_brk, ev_cnt, ek_ifS, k_t, k_f, ev_frzS, ev_append, ev_setIx, ev_for, ev_lc, ev_seqOf, ev_range, ev_var, ev_c, ev_op, ev_un, ev_args, ev_nil, ev_cons, ev_frz, ev_b, ev_and, ev_or, ev_not, ev_andV, ev_orV, ev_notV, ev_if, ev_chain, ev_isi, ev_ixOwn, ev_lenOwn, ev_call, ev_callK, ev_sl, ev_part, ev_true, ev_nm, ev_toB, frz, frzAt, toSeq_tup, toSeq_pt, toSeq_lst, toSeq_cl, toRet, mWipe, kbG, Mir.gTup, Mir.gLst, List.getElem?_cons_zero, List.getElem?_cons_succ, List.set_cons_zero, List.set_cons_succ, List.length_cons, List.length_nil, List.append_nil, List.nil_append, List.cons_append, Nat.reduceAdd, Nat.reduceLeDiff, Nat.reduceEqDiff, Nat.zero_add, reduceIte, Bool.false_eq_true, Bool.not_true, Bool.not_false, and_self, sizeM_eq, ev_make, ev_isiC, ev_sortD, ev_key, ev_join, ev_shr, ev_disp, ev_dput, ev_tru, gTru, cz0, cz1, cz2, cz3, cz4, Nat.reduceLT, Int.reduceEq, Int.reduceLT, Int.reduceLE, Int.reduceAdd, decide_true, decide_false, eqD_int, neD_int, eqD_str, neD_str, _root_.eq_self, len_tup, len_pt, len_lst, len_cl, lenR, lenC, sqC, unpt_cel, addA_int, addA_tup, addA_lst, mulA_int, mul_int, sub_int, lt_int, le_int, gt_int, geA_int, neg_int, int_int, tuple_lst, tuple_tup, tupleP_lst, tupleP_pt, ev_asT, setS_obj, unpt_pt, unpt_tup, unpt_non, list_tup, list_lst, in_own, ev_lc2, ev_dget2, ev_dget1, ev_dsetd, ev_putE, ev_appE, ev_newD, ev_fldO, ev_fldPut, ev_makeO, ev_listRv, ev_while, ev_gs, ev_gs0, ev_seqB, ev_callO, ev_indexT, wp_ok, wp_def, lq_nx, lq_ct, lq_bk, lq_rt, rho0, List.map_cons, List.map_nil, List.replicate, Nat.sub_self, Nat.reduceSub, $ls,*])
/-- a paper that is made: tuples of small integers and words -/
inductive Pp : PV → Nat → Prop
  | int {i : Int} {k : Nat} : -60 ≤ i → i ≤ 60 → Pp (.int i) k
  | str {w : Str} {k : Nat} : PyData.strOk w = true → Pp (.str w) k
  | tup {xs : List PV} {k : Nat} : xs.length ≤ 1000 → (∀ x ∈ xs, Pp x k) → Pp (.tup xs) (k + 1)
def SpV (v : PV) (k : Nat) : Prop := Ly v k ∧ Sho v
theorem SpV.mono {v : PV} {k j : Nat} (h : SpV v k) (hk : k ≤ j) : SpV v j := ⟨h.1.mono hk, h.2⟩
theorem Pp.mono {v : PV} {k : Nat} (h : Pp v k) : ∀ {j : Nat}, k ≤ j → Pp v j := by
  induction h with
  | int a b => exact fun _ => .int a b
  | str h => exact fun _ => .str h
  | tup hl _ ih =>
    intro j hj
    obtain ⟨j, rfl⟩ : ∃ i, j = i + 1 := ⟨j - 1, by omega⟩
    exact .tup hl fun x hx => ih x hx (by omega)
theorem wp_pick {β : Type} {xs : List PV} {k : Nat} (h : k < xs.length) {S : Store} {f : PV → Store → Res β} {Q : β → Store → Prop} (hp : ∀ y ∈ xs, Wp (f y S) Q) : Wp ((gIx (.lst xs) (natP k) S).bind f) Q := by
  rw [pick_ix h S]
  exact hp _ (List.getElem_mem h)
end Mir
set_option maxHeartbeats 4000000
namespace Mir
open PySem L2 MirCg
local macro_rules | `(tactic| simp_arith [$ls,*]) => `(tactic| simp only [ev_bindExc, ev_asg, ev_unTup, ev_unLst, ev_tupM, ev_gsCons, ev_gsNil, ev_raise, ev_tryL, ev_tryOk, ev_tryExc, ev_tryB, ev_tryBOk, ev_tryBExc, endS_rtE, endS_nxE, ev_kin, ev_kget, ev_index, eqD_int, neD_int, ek_fldI, fz_ties, fz_cells, fz_book, fz_rels, fz_rows, fz_size, ev_bind, ev_nox, ek_seq, k_nx, k_ct, k_bk, k_rt, bind_as, ev_set, ev_setOwn, ev_share, ev_drop, ev_ret, ev_retOwn, ev_skip, ev_brk, ev_cnt, ek_ifS, k_t, k_f, ev_frzS, ev_append, ev_setIx, ev_for, ev_lc, ev_seqOf, ev_range, ev_var, ev_c, ev_op, ev_un, ev_args, ev_nil, ev_cons, ev_frz, ev_b, ev_and, ev_or, ev_not, ev_andV, ev_orV, ev_notV, ev_if, ev_chain, ev_isi, ev_ixOwn, ev_lenOwn, ev_call, ev_callK, ev_sl, ev_part, ev_true, ev_nm, ev_toB, frz, frzAt, toSeq_tup, toSeq_pt, toSeq_lst, toSeq_cl, toRet, mWipe, kbG, Mir.gTup, Mir.gLst, List.getElem?_cons_zero, List.getElem?_cons_succ, List.set_cons_zero, List.set_cons_succ, List.length_cons, List.length_nil, List.append_nil, List.nil_append, List.cons_append, Nat.reduceAdd, Nat.reduceLeDiff, Nat.reduceEqDiff, Nat.zero_add, reduceIte, Bool.false_eq_true, Bool.not_true, Bool.not_false, and_self, sizeM_eq, ev_make, ev_isiC, ev_sortD, ev_key, ev_join, ev_shr, ev_disp, ev_dput, ev_tru, gTru, cz0, cz1, cz2, cz3, cz4, Nat.reduceLT, Int.reduceEq, Int.reduceLT, Int.reduceLE, Int.reduceAdd, decide_true, decide_false, eqD_int, neD_int, eqD_str, neD_str, _root_.eq_self, len_tup, len_pt, len_lst, len_cl, lenR, lenC, sqC, unpt_cel, addA_int, addA_tup, addA_lst, mulA_int, mul_int, sub_int, lt_int, le_int, gt_int, geA_int, neg_int, int_int, tuple_lst, tuple_tup, tupleP_lst, tupleP_pt, ev_asT, setS_obj, unpt_pt, unpt_tup, unpt_non, list_tup, list_lst, in_own, ev_lc2, ev_dget2, ev_dget1, ev_dsetd, ev_putE, ev_appE, ev_newD, ev_fldO, ev_fldPut, ev_makeO, ev_listRv, ev_while, ev_gs, ev_gs0, ev_seqB, ev_callO, ev_indexT, wp_ok, wp_def, lq_nx, lq_ct, lq_bk, lq_rt, rho0, List.map_cons, List.map_nil, List.replicate, Nat.sub_self, Nat.reduceSub, $ls,*])
noncomputable section
end
theorem StOk.tail {cc : Nat} {st : List (Nat × Int)} (h : StOk cc st) : StOk cc st.tail := ⟨by rw [List.map_tail]; exact h.asc.sublist (List.tail_sublist _), fun p hp => h.bits p (List.mem_of_mem_tail hp)⟩
theorem wp_nat {β : Type} {L : List PV} {k : Nat} (ns : List Nat) (e : L = ns.map natP) (h : k < ns.length) {S : Store} {f : PV → Store → Res β} {Q : β → Store → Prop} (hp : ∀ n ∈ ns, Wp (f (natP n) S) Q) : Wp ((gIx (.lst L) (natP k) S).bind f) Q := by
  subst e
  refine wp_pick (by rw [List.length_map]; exact h) fun y hy => ?_
  obtain ⟨n, hm, rfl⟩ := List.mem_map.mp hy
  exact hp n hm
theorem hand_low0 {S : Store} (h : Hand S []) : lowS S.length S = true := hand_lowR h rfl
end Mir
set_option maxHeartbeats 4000000
namespace Mir
open PySem L2 MirCg
noncomputable section
def Bf_fulfils : Rho → Store → Res Out :=
  (mSeq (mIfS (mB (mOp (gEqD false) (mOp gIx (mVar 1) (mC (.int 0))) (mC (.str "if"))))
    (mSeq (mIfS (mAnd (mB (mOp (gEqD false) (mArgs gLen (mCons (mVar 1) mNil)) (mC (.int 3)))) (mB (mOp (gEqD false) (mOp gIx (mVar 0) (mOp gIx (mVar 1) (mC (.int 2)))) (mC (.int 1)))))
    (mRet (mC (.bl true)))
    mSkip)
    (mRet (mArgs gAny (mCons (mFrz (mLc (mSeqOf (mOp gIx (mVar 1) (mC (.int 1)))) (gNm 2) mTrue (mOp (gEqD false) (mOp gIx (mVar 0) (mVar 2)) (mC (.int 0))) [2])) mNil))))
    mSkip)
    (mSeq (mIfS (mB (mOp (gEqD false) (mOp gIx (mVar 1) (mC (.int 0))) (mC (.str "pair"))))
    (mRet (mOrV (mOp (gEqD true) (mOp gIx (mVar 0) (mOp gIx (mVar 1) (mC (.int 1)))) (mOp gIx (mVar 1) (mC (.int 3)))) (mOp (gEqD true) (mOp gIx (mVar 0) (mOp gIx (mVar 1) (mC (.int 2)))) (mOp gIx (mVar 1) (mC (.int 4))))))
    mSkip)
    (mRet (mOp (gEqD false) (mOp gMod (mArgs gSum (mCons (mFrz (mLc (mSeqOf (mOp gIx (mVar 1) (mC (.int 1)))) (gNm 2) mTrue (mOp gIx (mVar 0) (mVar 2)) [2])) mNil)) (mC (.int 2))) (mOp gIx (mVar 1) (mC (.int 2)))))))
def Mf_fulfils : List PV → Store → Res PV := mDef 3 Bf_fulfils
def Bf_all_rows : Rho → Store → Res Out :=
  (mSeq (mSet 1 (mFrz (mArgs gLst (mCons (mArgs gTup mNil) mNil))))
    (mSeq (mFor (mRange gRange1 (mCons (mVar 0) mNil)) (gNm 2)
    (mSet 1 (mFrz (mLc2 (mSeqOf (mVar 1)) (gNm 3) mTrue (mSeqOf (mArgs gTup (mCons (mC (.int 0)) (mCons (mC (.int 1)) mNil)))) (gNm 4) mTrue (mOp gAddA (mVar 3) (mArgs gTup (mCons (mVar 4) mNil))) [3, 4] [4]))))
    (mRet (mVar 1))))
def Mf_all_rows : List PV → Store → Res PV := mDef 5 Bf_all_rows
def Bf_all_places : Rho → Store → Res Out :=
  (mRet (mFrz (mLc (mSeqOf (mCall 1 Mf_all_rows [] (mCons (mVar 0) mNil))) (gNm 1) mTrue (mArgs gTuple (mCons (mFrz (mLc (mRange gRange1 (mCons (mVar 0) mNil)) (gNm 2) (mB (mOp (gEqD false) (mOp gIx (mVar 1) (mVar 2)) (mC (.int 1)))) (mVar 2) [2])) mNil)) [1])))
def Mf_all_places : List PV → Store → Res PV := mDef 3 Bf_all_places
def Bf_thinned : Rho → Store → Res Out :=
  (mSeq (mSet 2 (mFrz (mLc (mSeqOf (mVar 1)) (gNm 6) (mB (mArgs gAll (mCons (mFrz (mLc (mSeqOf (mFldI "Relation" "rows" (mVar 0))) (gNm 4) mTrue (mCall 2 Mf_fulfils [] (mCons (mVar 4) (mCons (mVar 6) mNil))) [4])) mNil))) (mVar 6) [6])))
    (mSeq (mShare 3 (mArgs gLst mNil))
    (mSeq (mFor (mSeqOf (mCall 1 Mf_all_rows [] (mCons (mFldI "Relation" "size" (mVar 0)) mNil))) (gNm 4)
    (mIfS (mB (mArgs gAll (mCons (mFrz (mLcX (mVar 3) (gNm 6) mTrue (mCall 2 Mf_fulfils [] (mCons (mVar 4) (mCons (mVar 6) mNil))) [6])) mNil)))
    (mSeq (mSet 5 (mFrz (mLc (mSeqOf (mVar 2)) (gNm 6) (mNot (mB (mCall 2 Mf_fulfils [] (mCons (mVar 4) (mCons (mVar 6) mNil))))) (mVar 6) [6])))
    (mDrop (mExtE (mVar 3) (mSl gSl (mVar 5) (fun _ S => .ok none S) (mPart (mC (.int 1)))))))
    mSkip))
    (mRet (mAsT (mArgs gTupleP (mCons (mVar 3) mNil)))))))
def Mf_thinned : List PV → Store → Res PV := gcM (mDef 7 Bf_thinned)
def Bf_every_if : Rho → Store → Res Out :=
  (mSeq (mSetOwn 1 (mArgs gLst mNil))
    (mSeq (mFor (mSeqOf (mFrz (mArgs gSortLen (mCons (mCall 1 Mf_all_places [] (mCons (mVar 0) mNil)) mNil)))) (gNm 2)
    (mSeq (mIfS (mTru (mVar 2))
    (mAppend 1 (mArgs gTup (mCons (mC (.str "if")) (mCons (mVar 2) mNil))))
    mSkip)
    (mExtend 1 (mFrz (mLc (mRange gRange1 (mCons (mVar 0) mNil)) (gNm 3) (mB (mOp (gInD true) (mVar 3) (mVar 2))) (mArgs gTup (mCons (mC (.str "if")) (mCons (mVar 2) (mCons (mVar 3) mNil)))) [3])))))
    (mRetOwn 1)))
def Mf_every_if : List PV → Store → Res PV := mDef 4 Bf_every_if
def Bf__law_fulfils : Rho → Store → Res Out :=
  (mSeq (mIfS (mB (mOp (gEqD false) (mOp gIx (mVar 1) (mC (.int 0))) (mC (.str "pair"))))
    (mRet (mOrV (mOp (gEqD true) (mOp gIx (mVar 0) (mOp gIx (mVar 1) (mC (.int 1)))) (mOp gIx (mVar 1) (mC (.int 3)))) (mOp (gEqD true) (mOp gIx (mVar 0) (mOp gIx (mVar 1) (mC (.int 2)))) (mOp gIx (mVar 1) (mC (.int 4))))))
    mSkip)
    (mSeq (mSet 2 (mFrz (mLc (mSeqOf (mOp gIx (mVar 1) (mC (.int 1)))) (gNm 3) mTrue (mOp gIx (mVar 0) (mVar 3)) [3])))
    (mSeq (mIfS (mB (mOp (gEqD false) (mOp gIx (mVar 1) (mC (.int 0))) (mC (.str "sum"))))
    (mRet (mOp (gEqD false) (mOp gMod (mArgs gInt (mCons (mArgs gSum (mCons (mVar 2) mNil)) mNil)) (mC (.int 2))) (mOp gIx (mVar 1) (mC (.int 2)))))
    mSkip)
    (mRet (mOrV (mOp (gInD false) (mC (.int 0)) (mVar 2)) (mAndV (mOp (gEqD false) (mArgs gLen (mCons (mVar 1) mNil)) (mC (.int 3))) (mOp (gEqD false) (mOp gIx (mVar 0) (mOp gIx (mVar 1) (mC (.int 2)))) (mC (.int 1)))))))))
def Mf__law_fulfils : List PV → Store → Res PV := mDef 4 Bf__law_fulfils
def Bf__law_told : Rho → Store → Res Out :=
  (mSeq (mSetOwn 2 (mArgs gLst mNil))
    (mSeq (mFor (mSeqOf (mCall 1 Mq__law_every [] (mCons (mVar 0) mNil))) (gNm 3)
    (mIfS (mB (mOp (gEqD false) (mArgs gLen (mCons (mFrz (mLc (mSeqOf (mVar 1)) (gNm 4) (mNot (mB (mCall 2 Mf__law_fulfils [] (mCons (mVar 3) (mCons (mVar 4) mNil))))) (mVar 4) [4])) mNil)) (mC (.int 0))))
    (mAppend 2 (mVar 3))
    mSkip))
    (mFrzS 2 (mRet (mArgs gTup (mCons (mVar 0) (mCons (mArgs gTuple (mCons (mVar 2) mNil)) mNil)))))))
def Mf__law_told : List PV → Store → Res PV := mDef 5 Bf__law_told
def Bf__law_any : Rho → Store → Res Out :=
  (mSeq (mSet 1 (mOp gAddA (mC (.int 1)) (mCall 2 Mq__law_take [] (mCons (mVar 0) (mCons (mC (.int 4)) mNil)))))
    (mSeq (mSet 2 (mCall 1 Mq__law_every [] (mCons (mVar 1) mNil)))
    (mSeq (mSetOwn 3 (mArgs gLst mNil))
    (mSeq (mFor (mRange gRange1 (mCons (mOp gIx (mFrz (mArgs gLst (mCons (mOp gAddA (mC (.int 1)) (mCall 2 Mq__law_take [] (mCons (mVar 0) (mCons (mC (.int 4)) mNil)))) (mCons (mOp gAddA (mC (.int 1)) (mCall 2 Mq__law_take [] (mCons (mVar 0) (mCons (mC (.int 4)) mNil)))) (mCons (mOp gAddA (mC (.int 1)) (mCall 2 Mq__law_take [] (mCons (mVar 0) (mCons (mC (.int 9)) mNil)))) mNil))))) (mCall 2 Mq__law_take [] (mCons (mVar 0) (mCons (mC (.int 3)) mNil)))) mNil)) (gNm 4)
    (mAppend 3 (mOp gIx (mVar 2) (mCall 2 Mq__law_take [] (mCons (mVar 0) (mCons (mArgs gLen (mCons (mVar 2) mNil)) mNil))))))
    (mFrzS 3 (mRet (mArgs gTup (mCons (mVar 1) (mCons (mArgs gTuple (mCons (mFrz (mLc (mSeqOf (mVar 2)) (gNm 5) (mB (mOp (gInD false) (mVar 5) (mVar 3))) (mVar 5) [5])) mNil)) mNil)))))))))
def Mf__law_any : List PV → Store → Res PV := mDef 6 Bf__law_any
end
end Mir
set_option maxHeartbeats 4000000
namespace MirCl
open PySem L2 Mir MirCg
inductive Cl where
  | hd (b : List Nat) (h : Nat) | ng (b : List Nat) | pr (i j : Nat) (x y : Int) | sm (p : List Nat) (b : Int)
def natsV (b : List Nat) : PV := .tup (b.map fun (k : Nat) => PV.int (k : Int))
def clV : Cl → PV
  | .hd b h => .tup [.str "if", natsV b, .int h]
  | .ng b => .tup [.str "if", natsV b]
  | .pr i j x y => .tup [.str "pair", .int i, .int j, .int x, .int y]
  | .sm p b => .tup [.str "sum", natsV p, .int b]
/-- places below n, bits -/
def CzOk (n : Nat) : Cl → Prop
  | .hd b h => (∀ k ∈ b, k < n) ∧ b.length ≤ 4 ∧ h < n
  | .ng b => (∀ k ∈ b, k < n) ∧ b.length ≤ 4
  | .pr i j x y => i < n ∧ j < n ∧ (x = 0 ∨ x = 1) ∧ (y = 0 ∨ y = 1)
  | .sm p b => (∀ k ∈ p, k < n) ∧ p.length ≤ 4 ∧ (b = 0 ∨ b = 1)
def at_ (r : List Int) (k : Nat) : Int := r.getD k 0
def ful (r : List Int) : Cl → Bool
  | .hd b h => decide (at_ r h = 1) || b.any fun k => decide (at_ r k = 0)
  | .ng b => b.any fun k => decide (at_ r k = 0)
  | .pr i j x y => !decide (at_ r i = x) || !decide (at_ r j = y)
  | .sm p b => decide ((p.map (at_ r)).sum % 2 = b)
theorem a1 {α : Type} {x y : α} {xs : List α} : atI (x :: y :: xs) 1 = some y := by
  obtain ⟨hi, e⟩ := atI_ok (xs := x :: y :: xs) (i := 1) (by decide) (by simp only [List.length_cons]; omega)
  rw [e]
  rfl
theorem a2 {α : Type} {x y z : α} {xs : List α} : atI (x :: y :: z :: xs) 2 = some z := by
  obtain ⟨hi, e⟩ := atI_ok (xs := x :: y :: z :: xs) (i := 2) (by decide) (by simp only [List.length_cons]; omega)
  rw [e]
  rfl
theorem a3 {α : Type} {x y z u : α} {xs : List α} : atI (x :: y :: z :: u :: xs) 3 = some u := by
  obtain ⟨hi, e⟩ := atI_ok (xs := x :: y :: z :: u :: xs) (i := 3) (by decide) (by simp only [List.length_cons]; omega)
  rw [e]
  rfl
theorem a4 {α : Type} {x y z u v : α} {xs : List α} : atI (x :: y :: z :: u :: v :: xs) 4 = some v := by
  obtain ⟨hi, e⟩ := atI_ok (xs := x :: y :: z :: u :: v :: xs) (i := 4) (by decide) (by simp only [List.length_cons]; omega)
  rw [e]
  rfl
theorem ix_t {xs : List PV} {k : Int} {S : Store} : gIx (.tup xs) (.int k) S = match atI xs k with
  | some y => .ok y S
  | none => .bad := nrfl rfl
theorem ix_row {r : List Int} {k : Nat} (h : k < r.length) (S : Store) : gIx (rowP r) (.int k) S = .ok (.int (at_ r k)) S := by
  unfold rowP gIx
  simp only [atI_row h]
  rfl
theorem mapM_bls : ∀ bs : List Bool, (bs.map PV.bl).mapM toBl = some bs
  | [] => rfl
  | b :: bs => by
    rw [List.map_cons, List.mapM_cons, mapM_bls bs]
    rfl
theorem seq_nats (b : List Nat) (S : Store) : toSeq (natsV b) S = .ok (b.map fun (k : Nat) => PV.int (k : Int)) S := rfl
theorem fulfils_ok {n : Nat} {r : List Int} (hl : r.length = n) {c : Cl} (hc : CzOk n c) (S : Store) : Mf_fulfils [rowP r, clV c] S = .ok (.bl (ful r c)) S := by
  have any0 : ∀ b : List Nat, (∀ k ∈ b, k < n) → ∀ v, mLcGo (gNm 2) mTrue (mOp (gEqD false) (mOp gIx (mVar 0) (mVar 2)) (mC (.int 0))) [.val (rowP r), .val v, .none] (b.map fun (k : Nat) => PV.int (k : Int)) S = .ok ((b.map fun k => decide (at_ r k = 0)).map PV.bl) S := fun b hb v => by
    rw [List.map_map]
    exact lc_mapL (fun k : Nat => PV.int k) (fun k => PV.bl (decide (at_ r k = 0))) fun k hk => by
      refine ⟨_, rfl, rfl, ?_⟩
      simp only [ev_bind, ev_nox, ev_seq, ev_set, ev_setOwn, ev_share, ev_drop, ev_ret, ev_retOwn, ev_skip, ev_brk, ev_cnt, ev_ifS, ev_frzS, ev_append, ev_setIx, ev_for, ev_lc, ev_seqOf, ev_range, ev_var, ev_c, ev_op, ev_un, ev_args, ev_nil, ev_cons, ev_frz, ev_b, ev_and, ev_or, ev_not, ev_andV, ev_orV, ev_notV, ev_if, ev_chain, ev_isi, ev_ixOwn, ev_lenOwn, ev_call, ev_callK, ev_sl, ev_part, ev_true, ev_nm, ev_toB, frz, frzAt, toSeq_tup, toSeq_pt, toSeq_lst, toSeq_cl, toRet, mWipe, kbG, Mir.gTup, Mir.gLst, List.getElem?_cons_zero, List.getElem?_cons_succ, List.set_cons_zero, List.set_cons_succ, List.length_cons, List.length_nil, List.append_nil, List.nil_append, List.cons_append, Nat.reduceAdd, Nat.reduceLeDiff, Nat.reduceEqDiff, Nat.zero_add, reduceIte, Bool.false_eq_true, Bool.not_true, Bool.not_false, and_self, sizeM_eq, ix_row (by rw [hl]; exact hb k hk), eqD_int]
  have z : ∀ b : List Nat, b.length ≤ 4 → b.length ≤ 100000 := fun b h => by omega
  show (Bf_fulfils [.val (rowP r), .val (clV c), .none] S).bind toRet = _
  unfold Bf_fulfils
  cases c with
  | hd b h =>
    obtain ⟨h1, h2, h3⟩ := hc
    have e1 : ∀ S, gIx (rowP r) (.int h) S = .ok (.int (at_ r h)) S := fun S => ix_row (by rw [hl]; exact h3) S
    unfold clV
    simp only [ev_bind, ev_nox, ev_seq, ev_set, ev_setOwn, ev_share, ev_drop, ev_ret, ev_retOwn, ev_skip, ev_brk, ev_cnt, ev_ifS, ev_frzS, ev_append, ev_setIx, ev_for, ev_lc, ev_seqOf, ev_range, ev_var, ev_c, ev_op, ev_un, ev_args, ev_nil, ev_cons, ev_frz, ev_b, ev_and, ev_or, ev_not, ev_andV, ev_orV, ev_notV, ev_if, ev_chain, ev_isi, ev_ixOwn, ev_lenOwn, ev_call, ev_callK, ev_sl, ev_part, ev_true, ev_nm, ev_toB, frz, frzAt, toSeq_tup, toSeq_pt, toSeq_lst, toSeq_cl, toRet, mWipe, kbG, Mir.gTup, Mir.gLst, List.getElem?_cons_zero, List.getElem?_cons_succ, List.set_cons_zero, List.set_cons_succ, List.length_cons, List.length_nil, List.append_nil, List.nil_append, List.cons_append, Nat.reduceAdd, Nat.reduceLeDiff, Nat.reduceEqDiff, Nat.zero_add, reduceIte, Bool.false_eq_true, Bool.not_true, Bool.not_false, and_self, sizeM_eq, e1, ix_t, at0, a1, a2, eqD_str, decide_true, gLen, eqD_int, show decide (((3 : Nat) : Int) = 3) = true from rfl]
    cases q : decide (at_ r h = 1) with
    | true => simp only [ev_bind, ev_nox, ev_seq, ev_set, ev_setOwn, ev_share, ev_drop, ev_ret, ev_retOwn, ev_skip, ev_brk, ev_cnt, ev_ifS, ev_frzS, ev_append, ev_setIx, ev_for, ev_lc, ev_seqOf, ev_range, ev_var, ev_c, ev_op, ev_un, ev_args, ev_nil, ev_cons, ev_frz, ev_b, ev_and, ev_or, ev_not, ev_andV, ev_orV, ev_notV, ev_if, ev_chain, ev_isi, ev_ixOwn, ev_lenOwn, ev_call, ev_callK, ev_sl, ev_part, ev_true, ev_nm, ev_toB, frz, frzAt, toSeq_tup, toSeq_pt, toSeq_lst, toSeq_cl, toRet, mWipe, kbG, Mir.gTup, Mir.gLst, List.getElem?_cons_zero, List.getElem?_cons_succ, List.set_cons_zero, List.set_cons_succ, List.length_cons, List.length_nil, List.append_nil, List.nil_append, List.cons_append, Nat.reduceAdd, Nat.reduceLeDiff, Nat.reduceEqDiff, Nat.zero_add, reduceIte, Bool.false_eq_true, Bool.not_true, Bool.not_false, and_self, sizeM_eq, eqD_int, q, ful, Bool.true_or]
    | false => simp only [ev_bind, ev_nox, ev_seq, ev_set, ev_setOwn, ev_share, ev_drop, ev_ret, ev_retOwn, ev_skip, ev_brk, ev_cnt, ev_ifS, ev_frzS, ev_append, ev_setIx, ev_for, ev_lc, ev_seqOf, ev_range, ev_var, ev_c, ev_op, ev_un, ev_args, ev_nil, ev_cons, ev_frz, ev_b, ev_and, ev_or, ev_not, ev_andV, ev_orV, ev_notV, ev_if, ev_chain, ev_isi, ev_ixOwn, ev_lenOwn, ev_call, ev_callK, ev_sl, ev_part, ev_true, ev_nm, ev_toB, frz, frzAt, toSeq_tup, toSeq_pt, toSeq_lst, toSeq_cl, toRet, mWipe, kbG, Mir.gTup, Mir.gLst, List.getElem?_cons_zero, List.getElem?_cons_succ, List.set_cons_zero, List.set_cons_succ, List.length_cons, List.length_nil, List.append_nil, List.nil_append, List.cons_append, Nat.reduceAdd, Nat.reduceLeDiff, Nat.reduceEqDiff, Nat.zero_add, reduceIte, Bool.false_eq_true, Bool.not_true, Bool.not_false, and_self, sizeM_eq, ix_t, a1, eqD_int, q, ful, Bool.false_or, seq_nats, List.length_map, z b h2, any0 b h1, gAny, mapM_bls, List.any_map, id, Function.comp_def]
  | ng b =>
    obtain ⟨h1, h2⟩ := hc
    unfold clV
    simp only [ev_bind, ev_nox, ev_seq, ev_set, ev_setOwn, ev_share, ev_drop, ev_ret, ev_retOwn, ev_skip, ev_brk, ev_cnt, ev_ifS, ev_frzS, ev_append, ev_setIx, ev_for, ev_lc, ev_seqOf, ev_range, ev_var, ev_c, ev_op, ev_un, ev_args, ev_nil, ev_cons, ev_frz, ev_b, ev_and, ev_or, ev_not, ev_andV, ev_orV, ev_notV, ev_if, ev_chain, ev_isi, ev_ixOwn, ev_lenOwn, ev_call, ev_callK, ev_sl, ev_part, ev_true, ev_nm, ev_toB, frz, frzAt, toSeq_tup, toSeq_pt, toSeq_lst, toSeq_cl, toRet, mWipe, kbG, Mir.gTup, Mir.gLst, List.getElem?_cons_zero, List.getElem?_cons_succ, List.set_cons_zero, List.set_cons_succ, List.length_cons, List.length_nil, List.append_nil, List.nil_append, List.cons_append, Nat.reduceAdd, Nat.reduceLeDiff, Nat.reduceEqDiff, Nat.zero_add, reduceIte, Bool.false_eq_true, Bool.not_true, Bool.not_false, and_self, sizeM_eq, ix_t, at0, a1, a2, eqD_str, decide_true, gLen, eqD_int, show decide (((2 : Nat) : Int) = 3) = false from rfl, seq_nats, List.length_map, z b h2, any0 b h1, gAny, mapM_bls, List.any_map, id, Function.comp_def, ful]
  | pr i j x y =>
    obtain ⟨h1, h2, _⟩ := hc
    have e1 : ∀ S, gIx (rowP r) (.int i) S = .ok (.int (at_ r i)) S := fun S => ix_row (by rw [hl]; exact h1) S
    have e2 : ∀ S, gIx (rowP r) (.int j) S = .ok (.int (at_ r j)) S := fun S => ix_row (by rw [hl]; exact h2) S
    unfold clV
    simp only [ev_bind, ev_nox, ev_seq, ev_set, ev_setOwn, ev_share, ev_drop, ev_ret, ev_retOwn, ev_skip, ev_brk, ev_cnt, ev_ifS, ev_frzS, ev_append, ev_setIx, ev_for, ev_lc, ev_seqOf, ev_range, ev_var, ev_c, ev_op, ev_un, ev_args, ev_nil, ev_cons, ev_frz, ev_b, ev_and, ev_or, ev_not, ev_andV, ev_orV, ev_notV, ev_if, ev_chain, ev_isi, ev_ixOwn, ev_lenOwn, ev_call, ev_callK, ev_sl, ev_part, ev_true, ev_nm, ev_toB, frz, frzAt, toSeq_tup, toSeq_pt, toSeq_lst, toSeq_cl, toRet, mWipe, kbG, Mir.gTup, Mir.gLst, List.getElem?_cons_zero, List.getElem?_cons_succ, List.set_cons_zero, List.set_cons_succ, List.length_cons, List.length_nil, List.append_nil, List.nil_append, List.cons_append, Nat.reduceAdd, Nat.reduceLeDiff, Nat.reduceEqDiff, Nat.zero_add, reduceIte, Bool.false_eq_true, Bool.not_true, Bool.not_false, and_self, sizeM_eq, e1, e2, ix_t, at0, a1, a2, a3, a4, eqD_str, show decide (Str.ofString "pair" = Str.ofString "if") = false from by decide +kernel, decide_true]
    cases q : decide (at_ r i = x) with
    | false => simp only [ev_bind, ev_nox, ev_seq, ev_set, ev_setOwn, ev_share, ev_drop, ev_ret, ev_retOwn, ev_skip, ev_brk, ev_cnt, ev_ifS, ev_frzS, ev_append, ev_setIx, ev_for, ev_lc, ev_seqOf, ev_range, ev_var, ev_c, ev_op, ev_un, ev_args, ev_nil, ev_cons, ev_frz, ev_b, ev_and, ev_or, ev_not, ev_andV, ev_orV, ev_notV, ev_if, ev_chain, ev_isi, ev_ixOwn, ev_lenOwn, ev_call, ev_callK, ev_sl, ev_part, ev_true, ev_nm, ev_toB, frz, frzAt, toSeq_tup, toSeq_pt, toSeq_lst, toSeq_cl, toRet, mWipe, kbG, Mir.gTup, Mir.gLst, List.getElem?_cons_zero, List.getElem?_cons_succ, List.set_cons_zero, List.set_cons_succ, List.length_cons, List.length_nil, List.append_nil, List.nil_append, List.cons_append, Nat.reduceAdd, Nat.reduceLeDiff, Nat.reduceEqDiff, Nat.zero_add, reduceIte, Bool.false_eq_true, Bool.not_true, Bool.not_false, and_self, sizeM_eq, neD_int, q, ful, Bool.true_or]
    | true => simp only [ev_bind, ev_nox, ev_seq, ev_set, ev_setOwn, ev_share, ev_drop, ev_ret, ev_retOwn, ev_skip, ev_brk, ev_cnt, ev_ifS, ev_frzS, ev_append, ev_setIx, ev_for, ev_lc, ev_seqOf, ev_range, ev_var, ev_c, ev_op, ev_un, ev_args, ev_nil, ev_cons, ev_frz, ev_b, ev_and, ev_or, ev_not, ev_andV, ev_orV, ev_notV, ev_if, ev_chain, ev_isi, ev_ixOwn, ev_lenOwn, ev_call, ev_callK, ev_sl, ev_part, ev_true, ev_nm, ev_toB, frz, frzAt, toSeq_tup, toSeq_pt, toSeq_lst, toSeq_cl, toRet, mWipe, kbG, Mir.gTup, Mir.gLst, List.getElem?_cons_zero, List.getElem?_cons_succ, List.set_cons_zero, List.set_cons_succ, List.length_cons, List.length_nil, List.append_nil, List.nil_append, List.cons_append, Nat.reduceAdd, Nat.reduceLeDiff, Nat.reduceEqDiff, Nat.zero_add, reduceIte, Bool.false_eq_true, Bool.not_true, Bool.not_false, and_self, sizeM_eq, neD_int, q, ful, Bool.false_or]
  | sm p b =>
    obtain ⟨h1, h2, _⟩ := hc
    have lc : mLcGo (gNm 2) mTrue (mOp gIx (mVar 0) (mVar 2)) [.val (rowP r), .val (clV (.sm p b)), .none] (p.map fun (k : Nat) => PV.int (k : Int)) S = .ok ((p.map (at_ r)).map PV.int) S := by
      rw [List.map_map]
      exact lc_mapL (fun k : Nat => PV.int k) (fun k => PV.int (at_ r k)) fun k hk => by
        refine ⟨_, rfl, rfl, ?_⟩
        simp only [ev_bind, ev_nox, ev_seq, ev_set, ev_setOwn, ev_share, ev_drop, ev_ret, ev_retOwn, ev_skip, ev_brk, ev_cnt, ev_ifS, ev_frzS, ev_append, ev_setIx, ev_for, ev_lc, ev_seqOf, ev_range, ev_var, ev_c, ev_op, ev_un, ev_args, ev_nil, ev_cons, ev_frz, ev_b, ev_and, ev_or, ev_not, ev_andV, ev_orV, ev_notV, ev_if, ev_chain, ev_isi, ev_ixOwn, ev_lenOwn, ev_call, ev_callK, ev_sl, ev_part, ev_true, ev_nm, ev_toB, frz, frzAt, toSeq_tup, toSeq_pt, toSeq_lst, toSeq_cl, toRet, mWipe, kbG, Mir.gTup, Mir.gLst, List.getElem?_cons_zero, List.getElem?_cons_succ, List.set_cons_zero, List.set_cons_succ, List.length_cons, List.length_nil, List.append_nil, List.nil_append, List.cons_append, Nat.reduceAdd, Nat.reduceLeDiff, Nat.reduceEqDiff, Nat.zero_add, reduceIte, Bool.false_eq_true, Bool.not_true, Bool.not_false, and_self, sizeM_eq, ix_row (by rw [hl]; exact h1 k hk)]
    unfold clV at lc ⊢
    simp only [ev_bind, ev_nox, ev_seq, ev_set, ev_setOwn, ev_share, ev_drop, ev_ret, ev_retOwn, ev_skip, ev_brk, ev_cnt, ev_ifS, ev_frzS, ev_append, ev_setIx, ev_for, ev_lc, ev_seqOf, ev_range, ev_var, ev_c, ev_op, ev_un, ev_args, ev_nil, ev_cons, ev_frz, ev_b, ev_and, ev_or, ev_not, ev_andV, ev_orV, ev_notV, ev_if, ev_chain, ev_isi, ev_ixOwn, ev_lenOwn, ev_call, ev_callK, ev_sl, ev_part, ev_true, ev_nm, ev_toB, frz, frzAt, toSeq_tup, toSeq_pt, toSeq_lst, toSeq_cl, toRet, mWipe, kbG, Mir.gTup, Mir.gLst, List.getElem?_cons_zero, List.getElem?_cons_succ, List.set_cons_zero, List.set_cons_succ, List.length_cons, List.length_nil, List.append_nil, List.nil_append, List.cons_append, Nat.reduceAdd, Nat.reduceLeDiff, Nat.reduceEqDiff, Nat.zero_add, reduceIte, Bool.false_eq_true, Bool.not_true, Bool.not_false, and_self, sizeM_eq, ix_t, at0, a1, a2, eqD_str, show decide (Str.ofString "sum" = Str.ofString "if") = false from by decide +kernel, show decide (Str.ofString "sum" = Str.ofString "pair") = false from by decide +kernel, decide_true, seq_nats, List.length_map, z p h2, lc, gSum, mapM_int, gMod, show (0 : Int) < 2 by decide, show (2 : Int) < 1073741824 by decide, Bool.and_self, eqD_int, ful]
theorem lawful_ok {n : Nat} {r : List Int} (hl : r.length = n) {c : Cl} (hc : CzOk n c) (S : Store) : Mf__law_fulfils [rowP r, clV c] S = .ok (.bl (ful r c)) S := by
  have lc : ∀ p : List Nat, (∀ k ∈ p, k < n) → ∀ v s, mLcGo (gNm 3) mTrue (mOp gIx (mVar 0) (mVar 3)) [.val (rowP r), .val v, s, .none] (p.map fun (k : Nat) => PV.int (k : Int)) S = .ok ((p.map (at_ r)).map PV.int) S := fun p hp v s => by
    rw [List.map_map]
    exact lc_mapL (fun k : Nat => PV.int k) (fun k => PV.int (at_ r k)) fun k hk => by
      refine ⟨_, rfl, rfl, ?_⟩
      simp only [ev_bind, ev_nox, ev_seq, ev_set, ev_setOwn, ev_share, ev_drop, ev_ret, ev_retOwn, ev_skip, ev_brk, ev_cnt, ev_ifS, ev_frzS, ev_append, ev_setIx, ev_for, ev_lc, ev_seqOf, ev_range, ev_var, ev_c, ev_op, ev_un, ev_args, ev_nil, ev_cons, ev_frz, ev_b, ev_and, ev_or, ev_not, ev_andV, ev_orV, ev_notV, ev_if, ev_chain, ev_isi, ev_ixOwn, ev_lenOwn, ev_call, ev_callK, ev_sl, ev_part, ev_true, ev_nm, ev_toB, frz, frzAt, toSeq_tup, toSeq_pt, toSeq_lst, toSeq_cl, toRet, mWipe, kbG, Mir.gTup, Mir.gLst, List.getElem?_cons_zero, List.getElem?_cons_succ, List.set_cons_zero, List.set_cons_succ, List.length_cons, List.length_nil, List.append_nil, List.nil_append, List.cons_append, Nat.reduceAdd, Nat.reduceLeDiff, Nat.reduceEqDiff, Nat.zero_add, reduceIte, Bool.false_eq_true, Bool.not_true, Bool.not_false, and_self, sizeM_eq, ix_row (by rw [hl]; exact hp k hk)]
  have z : ∀ b : List Nat, b.length ≤ 4 → b.length ≤ 100000 := fun b h => by omega
  have anyz : ∀ b : List Nat, ((b.map (at_ r)).any fun z => decide (z = 0)) = b.any fun k => decide (at_ r k = 0) := fun b => by rw [List.any_map]; rfl
  show (Bf__law_fulfils [.val (rowP r), .val (clV c), .none, .none] S).bind toRet = _
  unfold Bf__law_fulfils
  cases c with
  | hd b h =>
    obtain ⟨h1, h2, h3⟩ := hc
    have e1 : ∀ S, gIx (rowP r) (.int h) S = .ok (.int (at_ r h)) S := fun S => ix_row (by rw [hl]; exact h3) S
    unfold clV
    simp only [ev_bind, ev_nox, ev_seq, ev_set, ev_setOwn, ev_share, ev_drop, ev_ret, ev_retOwn, ev_skip, ev_brk, ev_cnt, ev_ifS, ev_frzS, ev_append, ev_setIx, ev_for, ev_lc, ev_seqOf, ev_range, ev_var, ev_c, ev_op, ev_un, ev_args, ev_nil, ev_cons, ev_frz, ev_b, ev_and, ev_or, ev_not, ev_andV, ev_orV, ev_notV, ev_if, ev_chain, ev_isi, ev_ixOwn, ev_lenOwn, ev_call, ev_callK, ev_sl, ev_part, ev_true, ev_nm, ev_toB, frz, frzAt, toSeq_tup, toSeq_pt, toSeq_lst, toSeq_cl, toRet, mWipe, kbG, Mir.gTup, Mir.gLst, List.getElem?_cons_zero, List.getElem?_cons_succ, List.set_cons_zero, List.set_cons_succ, List.length_cons, List.length_nil, List.append_nil, List.nil_append, List.cons_append, Nat.reduceAdd, Nat.reduceLeDiff, Nat.reduceEqDiff, Nat.zero_add, reduceIte, Bool.false_eq_true, Bool.not_true, Bool.not_false, and_self, sizeM_eq, ix_t, at0, a1, a2, eqD_str, show decide (Str.ofString "if" = Str.ofString "pair") = false from by decide +kernel, show decide (Str.ofString "if" = Str.ofString "sum") = false from by decide +kernel, seq_nats, List.length_map, z b h2, lc b h1, inD_ints0, anyz]
    cases q : (b.any fun k => decide (at_ r k = 0)) with
    | true => simp only [ev_bind, ev_nox, ev_seq, ev_set, ev_setOwn, ev_share, ev_drop, ev_ret, ev_retOwn, ev_skip, ev_brk, ev_cnt, ev_ifS, ev_frzS, ev_append, ev_setIx, ev_for, ev_lc, ev_seqOf, ev_range, ev_var, ev_c, ev_op, ev_un, ev_args, ev_nil, ev_cons, ev_frz, ev_b, ev_and, ev_or, ev_not, ev_andV, ev_orV, ev_notV, ev_if, ev_chain, ev_isi, ev_ixOwn, ev_lenOwn, ev_call, ev_callK, ev_sl, ev_part, ev_true, ev_nm, ev_toB, frz, frzAt, toSeq_tup, toSeq_pt, toSeq_lst, toSeq_cl, toRet, mWipe, kbG, Mir.gTup, Mir.gLst, List.getElem?_cons_zero, List.getElem?_cons_succ, List.set_cons_zero, List.set_cons_succ, List.length_cons, List.length_nil, List.append_nil, List.nil_append, List.cons_append, Nat.reduceAdd, Nat.reduceLeDiff, Nat.reduceEqDiff, Nat.zero_add, reduceIte, Bool.false_eq_true, Bool.not_true, Bool.not_false, and_self, sizeM_eq, q, ful, Bool.or_true]
    | false => simp only [ev_bind, ev_nox, ev_seq, ev_set, ev_setOwn, ev_share, ev_drop, ev_ret, ev_retOwn, ev_skip, ev_brk, ev_cnt, ev_ifS, ev_frzS, ev_append, ev_setIx, ev_for, ev_lc, ev_seqOf, ev_range, ev_var, ev_c, ev_op, ev_un, ev_args, ev_nil, ev_cons, ev_frz, ev_b, ev_and, ev_or, ev_not, ev_andV, ev_orV, ev_notV, ev_if, ev_chain, ev_isi, ev_ixOwn, ev_lenOwn, ev_call, ev_callK, ev_sl, ev_part, ev_true, ev_nm, ev_toB, frz, frzAt, toSeq_tup, toSeq_pt, toSeq_lst, toSeq_cl, toRet, mWipe, kbG, Mir.gTup, Mir.gLst, List.getElem?_cons_zero, List.getElem?_cons_succ, List.set_cons_zero, List.set_cons_succ, List.length_cons, List.length_nil, List.append_nil, List.nil_append, List.cons_append, Nat.reduceAdd, Nat.reduceLeDiff, Nat.reduceEqDiff, Nat.zero_add, reduceIte, Bool.false_eq_true, Bool.not_true, Bool.not_false, and_self, sizeM_eq, e1, ix_t, a2, q, ful, Bool.or_false, gLen, eqD_int, show decide (((3 : Nat) : Int) = 3) = true from rfl]
  | ng b =>
    obtain ⟨h1, h2⟩ := hc
    unfold clV
    simp only [ev_bind, ev_nox, ev_seq, ev_set, ev_setOwn, ev_share, ev_drop, ev_ret, ev_retOwn, ev_skip, ev_brk, ev_cnt, ev_ifS, ev_frzS, ev_append, ev_setIx, ev_for, ev_lc, ev_seqOf, ev_range, ev_var, ev_c, ev_op, ev_un, ev_args, ev_nil, ev_cons, ev_frz, ev_b, ev_and, ev_or, ev_not, ev_andV, ev_orV, ev_notV, ev_if, ev_chain, ev_isi, ev_ixOwn, ev_lenOwn, ev_call, ev_callK, ev_sl, ev_part, ev_true, ev_nm, ev_toB, frz, frzAt, toSeq_tup, toSeq_pt, toSeq_lst, toSeq_cl, toRet, mWipe, kbG, Mir.gTup, Mir.gLst, List.getElem?_cons_zero, List.getElem?_cons_succ, List.set_cons_zero, List.set_cons_succ, List.length_cons, List.length_nil, List.append_nil, List.nil_append, List.cons_append, Nat.reduceAdd, Nat.reduceLeDiff, Nat.reduceEqDiff, Nat.zero_add, reduceIte, Bool.false_eq_true, Bool.not_true, Bool.not_false, and_self, sizeM_eq, ix_t, at0, a1, a2, eqD_str, show decide (Str.ofString "if" = Str.ofString "pair") = false from by decide +kernel, show decide (Str.ofString "if" = Str.ofString "sum") = false from by decide +kernel, seq_nats, List.length_map, z b h2, lc b h1, inD_ints0, anyz]
    cases q : (b.any fun k => decide (at_ r k = 0)) with
    | true => simp only [ev_bind, ev_nox, ev_seq, ev_set, ev_setOwn, ev_share, ev_drop, ev_ret, ev_retOwn, ev_skip, ev_brk, ev_cnt, ev_ifS, ev_frzS, ev_append, ev_setIx, ev_for, ev_lc, ev_seqOf, ev_range, ev_var, ev_c, ev_op, ev_un, ev_args, ev_nil, ev_cons, ev_frz, ev_b, ev_and, ev_or, ev_not, ev_andV, ev_orV, ev_notV, ev_if, ev_chain, ev_isi, ev_ixOwn, ev_lenOwn, ev_call, ev_callK, ev_sl, ev_part, ev_true, ev_nm, ev_toB, frz, frzAt, toSeq_tup, toSeq_pt, toSeq_lst, toSeq_cl, toRet, mWipe, kbG, Mir.gTup, Mir.gLst, List.getElem?_cons_zero, List.getElem?_cons_succ, List.set_cons_zero, List.set_cons_succ, List.length_cons, List.length_nil, List.append_nil, List.nil_append, List.cons_append, Nat.reduceAdd, Nat.reduceLeDiff, Nat.reduceEqDiff, Nat.zero_add, reduceIte, Bool.false_eq_true, Bool.not_true, Bool.not_false, and_self, sizeM_eq, q, ful]
    | false => simp only [ev_bind, ev_nox, ev_seq, ev_set, ev_setOwn, ev_share, ev_drop, ev_ret, ev_retOwn, ev_skip, ev_brk, ev_cnt, ev_ifS, ev_frzS, ev_append, ev_setIx, ev_for, ev_lc, ev_seqOf, ev_range, ev_var, ev_c, ev_op, ev_un, ev_args, ev_nil, ev_cons, ev_frz, ev_b, ev_and, ev_or, ev_not, ev_andV, ev_orV, ev_notV, ev_if, ev_chain, ev_isi, ev_ixOwn, ev_lenOwn, ev_call, ev_callK, ev_sl, ev_part, ev_true, ev_nm, ev_toB, frz, frzAt, toSeq_tup, toSeq_pt, toSeq_lst, toSeq_cl, toRet, mWipe, kbG, Mir.gTup, Mir.gLst, List.getElem?_cons_zero, List.getElem?_cons_succ, List.set_cons_zero, List.set_cons_succ, List.length_cons, List.length_nil, List.append_nil, List.nil_append, List.cons_append, Nat.reduceAdd, Nat.reduceLeDiff, Nat.reduceEqDiff, Nat.zero_add, reduceIte, Bool.false_eq_true, Bool.not_true, Bool.not_false, and_self, sizeM_eq, q, ful, gLen, eqD_int, show decide (((2 : Nat) : Int) = 3) = false from rfl]
  | pr i j x y =>
    obtain ⟨h1, h2, _⟩ := hc
    have e1 : ∀ S, gIx (rowP r) (.int i) S = .ok (.int (at_ r i)) S := fun S => ix_row (by rw [hl]; exact h1) S
    have e2 : ∀ S, gIx (rowP r) (.int j) S = .ok (.int (at_ r j)) S := fun S => ix_row (by rw [hl]; exact h2) S
    unfold clV
    simp only [ev_bind, ev_nox, ev_seq, ev_set, ev_setOwn, ev_share, ev_drop, ev_ret, ev_retOwn, ev_skip, ev_brk, ev_cnt, ev_ifS, ev_frzS, ev_append, ev_setIx, ev_for, ev_lc, ev_seqOf, ev_range, ev_var, ev_c, ev_op, ev_un, ev_args, ev_nil, ev_cons, ev_frz, ev_b, ev_and, ev_or, ev_not, ev_andV, ev_orV, ev_notV, ev_if, ev_chain, ev_isi, ev_ixOwn, ev_lenOwn, ev_call, ev_callK, ev_sl, ev_part, ev_true, ev_nm, ev_toB, frz, frzAt, toSeq_tup, toSeq_pt, toSeq_lst, toSeq_cl, toRet, mWipe, kbG, Mir.gTup, Mir.gLst, List.getElem?_cons_zero, List.getElem?_cons_succ, List.set_cons_zero, List.set_cons_succ, List.length_cons, List.length_nil, List.append_nil, List.nil_append, List.cons_append, Nat.reduceAdd, Nat.reduceLeDiff, Nat.reduceEqDiff, Nat.zero_add, reduceIte, Bool.false_eq_true, Bool.not_true, Bool.not_false, and_self, sizeM_eq, e1, e2, ix_t, at0, a1, a2, a3, a4, eqD_str, decide_true]
    cases q : decide (at_ r i = x) with
    | false => simp only [ev_bind, ev_nox, ev_seq, ev_set, ev_setOwn, ev_share, ev_drop, ev_ret, ev_retOwn, ev_skip, ev_brk, ev_cnt, ev_ifS, ev_frzS, ev_append, ev_setIx, ev_for, ev_lc, ev_seqOf, ev_range, ev_var, ev_c, ev_op, ev_un, ev_args, ev_nil, ev_cons, ev_frz, ev_b, ev_and, ev_or, ev_not, ev_andV, ev_orV, ev_notV, ev_if, ev_chain, ev_isi, ev_ixOwn, ev_lenOwn, ev_call, ev_callK, ev_sl, ev_part, ev_true, ev_nm, ev_toB, frz, frzAt, toSeq_tup, toSeq_pt, toSeq_lst, toSeq_cl, toRet, mWipe, kbG, Mir.gTup, Mir.gLst, List.getElem?_cons_zero, List.getElem?_cons_succ, List.set_cons_zero, List.set_cons_succ, List.length_cons, List.length_nil, List.append_nil, List.nil_append, List.cons_append, Nat.reduceAdd, Nat.reduceLeDiff, Nat.reduceEqDiff, Nat.zero_add, reduceIte, Bool.false_eq_true, Bool.not_true, Bool.not_false, and_self, sizeM_eq, neD_int, q, ful, Bool.true_or]
    | true => simp only [ev_bind, ev_nox, ev_seq, ev_set, ev_setOwn, ev_share, ev_drop, ev_ret, ev_retOwn, ev_skip, ev_brk, ev_cnt, ev_ifS, ev_frzS, ev_append, ev_setIx, ev_for, ev_lc, ev_seqOf, ev_range, ev_var, ev_c, ev_op, ev_un, ev_args, ev_nil, ev_cons, ev_frz, ev_b, ev_and, ev_or, ev_not, ev_andV, ev_orV, ev_notV, ev_if, ev_chain, ev_isi, ev_ixOwn, ev_lenOwn, ev_call, ev_callK, ev_sl, ev_part, ev_true, ev_nm, ev_toB, frz, frzAt, toSeq_tup, toSeq_pt, toSeq_lst, toSeq_cl, toRet, mWipe, kbG, Mir.gTup, Mir.gLst, List.getElem?_cons_zero, List.getElem?_cons_succ, List.set_cons_zero, List.set_cons_succ, List.length_cons, List.length_nil, List.append_nil, List.nil_append, List.cons_append, Nat.reduceAdd, Nat.reduceLeDiff, Nat.reduceEqDiff, Nat.zero_add, reduceIte, Bool.false_eq_true, Bool.not_true, Bool.not_false, and_self, sizeM_eq, neD_int, q, ful, Bool.false_or]
  | sm p b =>
    obtain ⟨h1, h2, _⟩ := hc
    unfold clV
    simp only [ev_bind, ev_nox, ev_seq, ev_set, ev_setOwn, ev_share, ev_drop, ev_ret, ev_retOwn, ev_skip, ev_brk, ev_cnt, ev_ifS, ev_frzS, ev_append, ev_setIx, ev_for, ev_lc, ev_seqOf, ev_range, ev_var, ev_c, ev_op, ev_un, ev_args, ev_nil, ev_cons, ev_frz, ev_b, ev_and, ev_or, ev_not, ev_andV, ev_orV, ev_notV, ev_if, ev_chain, ev_isi, ev_ixOwn, ev_lenOwn, ev_call, ev_callK, ev_sl, ev_part, ev_true, ev_nm, ev_toB, frz, frzAt, toSeq_tup, toSeq_pt, toSeq_lst, toSeq_cl, toRet, mWipe, kbG, Mir.gTup, Mir.gLst, List.getElem?_cons_zero, List.getElem?_cons_succ, List.set_cons_zero, List.set_cons_succ, List.length_cons, List.length_nil, List.append_nil, List.nil_append, List.cons_append, Nat.reduceAdd, Nat.reduceLeDiff, Nat.reduceEqDiff, Nat.zero_add, reduceIte, Bool.false_eq_true, Bool.not_true, Bool.not_false, and_self, sizeM_eq, ix_t, at0, a1, a2, eqD_str, show decide (Str.ofString "sum" = Str.ofString "pair") = false from by decide +kernel, decide_true, seq_nats, List.length_map, z p h2, lc p h1, gSum, mapM_int, gInt, gMod, show (0 : Int) < 2 by decide, show (2 : Int) < 1073741824 by decide, Bool.and_self, eqD_int, ful]
def tolds (n : Nat) (cs : List Cl) : List (List Int) := (rowsE n).filter fun r => cs.all (ful r)
inductive ClsV (cs : List Cl) : PV → Prop
  | lst : ClsV cs (.lst (cs.map clV))
  | tup : ClsV cs (.tup (cs.map clV))
theorem ClsV.seq {cs v} (h : ClsV cs v) (S : Store) : toSeq v S = .ok (cs.map clV) S := by cases h <;> rfl
theorem every_ok' {n : Nat} (hn : n ≤ 4) (S : Store) : Mq__law_every [.int n] S = .ok (.lst ((rowsE n).map rowP)) S := every_q (by omega) S
theorem allrows_ok {n : Nat} (hn : n ≤ 4) (S : Store) : Mf_all_rows [.int n] S = .ok (.lst ((rowsE n).map rowP)) S := by
  match n, hn with
  | 0, _ => kernel_rfl
  | 1, _ => kernel_rfl
  | 2, _ => kernel_rfl
  | 3, _ => kernel_rfl
  | 4, _ => kernel_rfl
def B_told : Rho → Store → Res Out := (mIfS (mB (mOp (gEqD false) (mArgs gLen (mCons (mFrz (mLc (mSeqOf (mVar 1)) (gNm 4) (mNot (mB (mCall 2 Mf__law_fulfils [] (mCons (mVar 3) (mCons (mVar 4) mNil))))) (mVar 4) [4])) mNil)) (mC (.int 0))))
    (mAppend 2 (mVar 3))
    mSkip)
theorem none_left (r : List Int) (cs : List Cl) : decide (((cs.filter fun c => !ful r c).length : Int) = 0) = cs.all (ful r) := by
  induction cs with
  | nil => rfl
  | cons c cs ih =>
    rw [List.filter_cons, List.all_cons]
    cases q : ful r c with
    | true => simpa [q] using ih
    | false =>
      simp only [Bool.not_false, if_true, List.length_cons, Bool.false_and]
      exact decide_eq_false (by omega)
theorem told_ok {n : Nat} (hn : n ≤ 4) {cs : List Cl} (hc : ∀ c ∈ cs, CzOk n c) (hl : cs.length ≤ 100) {v : PV} (hv : ClsV cs v) (S : Store) : Mf__law_told [.int n, v] S = .ok (.tup [.int n, .tup ((tolds n cs).map rowP)]) S := by
  have few := rowsE_few hn
  obtain ⟨ρ', S', e, rfl, s3, rfl⟩ := for_map (g := gNm 3) (b := B_told) rowP (ps := rowsE n)
    (fun pre ρ S' => S' = S ∧ ∃ s3, ρ = [.val (.int n), .val v, .own (.lst ((pre.filter fun r => cs.all (ful r)).map rowP)), s3, .none]) (by
      rintro pre r post ρ S' ex ⟨rfl, s3, rfl⟩
      have hr : r ∈ rowsE n := by rw [ex]; simp
      have rl := (rowsE_mem hr).1
      have lc := lc_filterL (g := gNm 4) (t := mNot (mB (mCall 2 Mf__law_fulfils [] (mCons (mVar 3) (mCons (mVar 4) mNil))))) (a := mVar 4) (ρ := [.val (.int n), .val v, .own (.lst ((pre.filter fun r => cs.all (ful r)).map rowP)), .val (rowP r), .none]) (S := S') clV clV (fun c => !ful r c) (ps := cs) (fun c hcc => by
        refine ⟨_, rfl, ?_, fun _ => ?_⟩
        · simp only [ev_bind, ev_nox, ev_seq, ev_set, ev_setOwn, ev_share, ev_drop, ev_ret, ev_retOwn, ev_skip, ev_brk, ev_cnt, ev_ifS, ev_frzS, ev_append, ev_setIx, ev_for, ev_lc, ev_seqOf, ev_range, ev_var, ev_c, ev_op, ev_un, ev_args, ev_nil, ev_cons, ev_frz, ev_b, ev_and, ev_or, ev_not, ev_andV, ev_orV, ev_notV, ev_if, ev_chain, ev_isi, ev_ixOwn, ev_lenOwn, ev_call, ev_callK, ev_sl, ev_part, ev_true, ev_nm, ev_toB, frz, frzAt, toSeq_tup, toSeq_pt, toSeq_lst, toSeq_cl, toRet, mWipe, kbG, Mir.gTup, Mir.gLst, List.getElem?_cons_zero, List.getElem?_cons_succ, List.set_cons_zero, List.set_cons_succ, List.length_cons, List.length_nil, List.append_nil, List.nil_append, List.cons_append, Nat.reduceAdd, Nat.reduceLeDiff, Nat.reduceEqDiff, Nat.zero_add, reduceIte, Bool.false_eq_true, Bool.not_true, Bool.not_false, and_self, sizeM_eq, lawful_ok rl (hc c hcc)]
        · simp only [ev_bind, ev_nox, ev_seq, ev_set, ev_setOwn, ev_share, ev_drop, ev_ret, ev_retOwn, ev_skip, ev_brk, ev_cnt, ev_ifS, ev_frzS, ev_append, ev_setIx, ev_for, ev_lc, ev_seqOf, ev_range, ev_var, ev_c, ev_op, ev_un, ev_args, ev_nil, ev_cons, ev_frz, ev_b, ev_and, ev_or, ev_not, ev_andV, ev_orV, ev_notV, ev_if, ev_chain, ev_isi, ev_ixOwn, ev_lenOwn, ev_call, ev_callK, ev_sl, ev_part, ev_true, ev_nm, ev_toB, frz, frzAt, toSeq_tup, toSeq_pt, toSeq_lst, toSeq_cl, toRet, mWipe, kbG, Mir.gTup, Mir.gLst, List.getElem?_cons_zero, List.getElem?_cons_succ, List.set_cons_zero, List.set_cons_succ, List.length_cons, List.length_nil, List.append_nil, List.nil_append, List.cons_append, Nat.reduceAdd, Nat.reduceLeDiff, Nat.reduceEqDiff, Nat.zero_add, reduceIte, Bool.false_eq_true, Bool.not_true, Bool.not_false, and_self, sizeM_eq])
      have zl : cs.length ≤ 100000 := by omega
      have pl : (pre.filter fun r => cs.all (ful r)).length < 100000 := by
        have h1 := List.length_filter_le (fun r => cs.all (ful r)) pre
        have h2 := congrArg List.length ex
        rw [List.length_append] at h2
        omega
      rw [List.filter_append]
      cases q : cs.all (ful r) with
      | true =>
        refine ⟨_, S', .inl ?_, rfl, .val (rowP r), rfl⟩
        unfold B_told
        simp only [ev_bind, ev_nox, ev_seq, ev_set, ev_setOwn, ev_share, ev_drop, ev_ret, ev_retOwn, ev_skip, ev_brk, ev_cnt, ev_ifS, ev_frzS, ev_append, ev_setIx, ev_for, ev_lc, ev_seqOf, ev_range, ev_var, ev_c, ev_op, ev_un, ev_args, ev_nil, ev_cons, ev_frz, ev_b, ev_and, ev_or, ev_not, ev_andV, ev_orV, ev_notV, ev_if, ev_chain, ev_isi, ev_ixOwn, ev_lenOwn, ev_call, ev_callK, ev_sl, ev_part, ev_true, ev_nm, ev_toB, frz, frzAt, toSeq_tup, toSeq_pt, toSeq_lst, toSeq_cl, toRet, mWipe, kbG, Mir.gTup, Mir.gLst, List.getElem?_cons_zero, List.getElem?_cons_succ, List.set_cons_zero, List.set_cons_succ, List.length_cons, List.length_nil, List.append_nil, List.nil_append, List.cons_append, Nat.reduceAdd, Nat.reduceLeDiff, Nat.reduceEqDiff, Nat.zero_add, reduceIte, Bool.false_eq_true, Bool.not_true, Bool.not_false, and_self, sizeM_eq, hv.seq, List.length_map, zl, lc, gLen, eqD_int, none_left, q, pl, List.filter_cons, List.filter_nil, List.map_append, List.map_cons, List.map_nil]
      | false =>
        refine ⟨_, S', .inl ?_, rfl, .val (rowP r), rfl⟩
        unfold B_told
        simp only [ev_bind, ev_nox, ev_seq, ev_set, ev_setOwn, ev_share, ev_drop, ev_ret, ev_retOwn, ev_skip, ev_brk, ev_cnt, ev_ifS, ev_frzS, ev_append, ev_setIx, ev_for, ev_lc, ev_seqOf, ev_range, ev_var, ev_c, ev_op, ev_un, ev_args, ev_nil, ev_cons, ev_frz, ev_b, ev_and, ev_or, ev_not, ev_andV, ev_orV, ev_notV, ev_if, ev_chain, ev_isi, ev_ixOwn, ev_lenOwn, ev_call, ev_callK, ev_sl, ev_part, ev_true, ev_nm, ev_toB, frz, frzAt, toSeq_tup, toSeq_pt, toSeq_lst, toSeq_cl, toRet, mWipe, kbG, Mir.gTup, Mir.gLst, List.getElem?_cons_zero, List.getElem?_cons_succ, List.set_cons_zero, List.set_cons_succ, List.length_cons, List.length_nil, List.append_nil, List.nil_append, List.cons_append, Nat.reduceAdd, Nat.reduceLeDiff, Nat.reduceEqDiff, Nat.zero_add, reduceIte, Bool.false_eq_true, Bool.not_true, Bool.not_false, and_self, sizeM_eq, hv.seq, List.length_map, zl, lc, gLen, eqD_int, none_left, q, List.filter_cons, List.filter_nil]) [.val (.int n), .val v, .own (.lst []), .none, .none] S ⟨rfl, _, rfl⟩
  show (Bf__law_told [.val (.int n), .val v, .none, .none, .none] S').bind toRet = _
  unfold B_told at e
  unfold Bf__law_told
  simp only [ev_bind, ev_nox, ev_seq, ev_set, ev_setOwn, ev_share, ev_drop, ev_ret, ev_retOwn, ev_skip, ev_brk, ev_cnt, ev_ifS, ev_frzS, ev_append, ev_setIx, ev_for, ev_lc, ev_seqOf, ev_range, ev_var, ev_c, ev_op, ev_un, ev_args, ev_nil, ev_cons, ev_frz, ev_b, ev_and, ev_or, ev_not, ev_andV, ev_orV, ev_notV, ev_if, ev_chain, ev_isi, ev_ixOwn, ev_lenOwn, ev_call, ev_callK, ev_sl, ev_part, ev_true, ev_nm, ev_toB, frz, frzAt, toSeq_tup, toSeq_pt, toSeq_lst, toSeq_cl, toRet, mWipe, kbG, Mir.gTup, Mir.gLst, List.getElem?_cons_zero, List.getElem?_cons_succ, List.set_cons_zero, List.set_cons_succ, List.length_cons, List.length_nil, List.append_nil, List.nil_append, List.cons_append, Nat.reduceAdd, Nat.reduceLeDiff, Nat.reduceEqDiff, Nat.zero_add, reduceIte, Bool.false_eq_true, Bool.not_true, Bool.not_false, and_self, sizeM_eq, every_ok' hn, e, gTuple]
  rfl
theorem dat_place {k : Nat} (h : k < 4) : Dat (.int k) 8 0 := by
  match k, h with
  | 0, _ => exact dat_by (.int 0) rfl (by decide +kernel) rfl
  | 1, _ => exact dat_by (.int 1) rfl (by decide +kernel) rfl
  | 2, _ => exact dat_by (.int 2) rfl (by decide +kernel) rfl
  | 3, _ => exact dat_by (.int 3) rfl (by decide +kernel) rfl
theorem dat_nats {b : List Nat} (h : ∀ k ∈ b, k < 4) (hl : b.length ≤ 4) : Dat (natsV b) 36 1 := by
  have : Dat (natsV b) ((8 + 1) * (b.map fun (k : Nat) => PV.int (k : Int)).length) (0 + 1) := dat_tup fun x hx => by
    obtain ⟨k, hk, rfl⟩ := List.mem_map.mp hx
    exact dat_place (h k hk)
  rw [List.length_map] at this
  exact this.mono (by omega) (by omega)
theorem dat_if : Dat (.str "if") 36 1 := dat_by (.str "if") rfl (by decide +kernel) (by decide +kernel)
theorem dat_pair : Dat (.str "pair") 36 1 := dat_by (.str "pair") rfl (by decide +kernel) (by decide +kernel)
theorem dat_sum : Dat (.str "sum") 36 1 := dat_by (.str "sum") rfl (by decide +kernel) (by decide +kernel)
theorem dat_cl {n : Nat} (hn : n ≤ 4) {c : Cl} (h : CzOk n c) : Dat (clV c) 185 2 := by
  have up : ∀ {y : PV}, Dat y 8 0 → Dat y 36 1 := fun h => h.mono (by omega) (by omega)
  have bit : ∀ {x : Int}, (x = 0 ∨ x = 1) → Dat (.int x) 36 1 := fun h => (dat_bit h).mono (by omega) (by omega)
  have tp : ∀ {xs : List PV}, (∀ x ∈ xs, Dat x 36 1) → xs.length ≤ 5 → Dat (.tup xs) 185 2 := fun h hl => (dat_tup h).mono (by omega) (by omega)
  have nt : ∀ {b : List Nat}, (∀ k ∈ b, k < n) → b.length ≤ 4 → Dat (natsV b) 36 1 := fun h hl => dat_nats (fun k hk => Nat.lt_of_lt_of_le (h k hk) hn) hl
  cases c with
  | hd b k =>
    obtain ⟨h1, h2, h3⟩ := h
    refine tp (fun x hx => ?_) (by simp)
    simp only [List.mem_cons, List.not_mem_nil, or_false] at hx
    rcases hx with rfl | rfl | rfl
    · exact dat_if
    · exact nt h1 h2
    · exact up (dat_place (by omega))
  | ng b =>
    obtain ⟨h1, h2⟩ := h
    refine tp (fun x hx => ?_) (by simp)
    simp only [List.mem_cons, List.not_mem_nil, or_false] at hx
    rcases hx with rfl | rfl
    · exact dat_if
    · exact nt h1 h2
  | pr i j x y =>
    obtain ⟨h1, h2, h3, h4⟩ := h
    refine tp (fun x hx => ?_) (by simp)
    simp only [List.mem_cons, List.not_mem_nil, or_false] at hx
    rcases hx with rfl | rfl | rfl | rfl | rfl
    · exact dat_pair
    · exact up (dat_place (by omega))
    · exact up (dat_place (by omega))
    · exact bit h3
    · exact bit h4
  | sm p b =>
    obtain ⟨h1, h2, h3⟩ := h
    refine tp (fun x hx => ?_) (by simp)
    simp only [List.mem_cons, List.not_mem_nil, or_false] at hx
    rcases hx with rfl | rfl | rfl
    · exact dat_sum
    · exact nt h1 h2
    · exact bit h3
theorem text_rel {n : Nat} (hn : n ≤ 4) {rs : List (List Int)} (h : rs.Sublist (rowsE n)) : ∃ s : Str, ∀ S, gRepr [.tup [.int n, .tup (rs.map rowP)]] S = .ok (.str s) S := by
  have few := rowsE_few hn
  have l := h.length_le
  have dn : Dat (.int n) 8 0 := by
    match n, hn with
    | 0, _ => exact dat_by (.int 0) rfl (by decide +kernel) rfl
    | 1, _ => exact dat_by (.int 1) rfl (by decide +kernel) rfl
    | 2, _ => exact dat_by (.int 2) rfl (by decide +kernel) rfl
    | 3, _ => exact dat_by (.int 3) rfl (by decide +kernel) rfl
    | 4, _ => exact dat_by (.int 4) rfl (by decide +kernel) rfl
  have dr : Dat (.tup (rs.map rowP)) ((8 + 1) * (rs.map rowP).length) (1 + 1) := dat_tup fun x hx => by
    obtain ⟨r, hr, rfl⟩ := List.mem_map.mp hx
    obtain ⟨rl, rb⟩ := rowsE_mem (h.subset hr)
    have : Dat (rowP r) ((1 + 1) * (r.map PV.int).length) (0 + 1) := dat_tup fun y hy => by
      obtain ⟨b, hb, rfl⟩ := List.mem_map.mp hy
      exact dat_bit (rb b hb)
    rw [List.length_map] at this
    exact this.mono (by omega) (by omega)
  rw [List.length_map] at dr
  have d : Dat (.tup [.int n, .tup (rs.map rowP)]) ((600 + 1) * 2) (2 + 1) := dat_tup fun x hx => by
    simp only [List.mem_cons, List.not_mem_nil, or_false] at hx
    rcases hx with rfl | rfl
    · exact dn.mono (by omega) (by omega)
    · exact dr.mono (by omega) (by omega)
  obtain ⟨s, _, g⟩ := d.text (by omega) (by omega)
  exact ⟨s, g⟩
end MirCl
set_option maxHeartbeats 4000000
namespace Mir
open PySem L2 MirCg
mutual
def noBl : PyData → Bool
  | .bool _ => false
  | .dict _ => false
  | .list xs => noBlAll xs
  | .tuple xs => noBlAll xs
  | .none => true
  | .int _ => true
  | .str _ => true
def noBlAll : List PyData → Bool
  | [] => true
  | x :: xs => noBl x && noBlAll xs
end
mutual
theorem eqv_iff : (d e : PyData) → noBl d = true → noBl e = true → (PyData.eqv d e = true ↔ d = e)
  | .none, e, _, h => by cases e <;> simp [PyData.eqv, noBl] at h ⊢
  | .int i, e, _, h => by cases e <;> simp [PyData.eqv, noBl] at h ⊢
  | .str s, e, _, h => by cases e <;> simp [PyData.eqv, noBl] at h ⊢
  | .list xs, e, h0, h => by
    cases e <;> simp [PyData.eqv, noBl] at h ⊢
    rename_i ys
    exact eqvAll_iff xs ys (by simpa [noBl] using h0) h
  | .tuple xs, e, h0, h => by
    cases e <;> simp [PyData.eqv, noBl] at h ⊢
    rename_i ys
    exact eqvAll_iff xs ys (by simpa [noBl] using h0) h
  | .bool _, _, h, _ => by cases h
  | .dict _, _, h, _ => by cases h
theorem eqvAll_iff : (ds es : List PyData) → noBlAll ds = true → noBlAll es = true → (PyData.eqvAll ds es = true ↔ ds = es)
  | [], es, _, _ => by cases es <;> simp [PyData.eqvAll]
  | d :: ds, [], _, _ => by simp [PyData.eqvAll]
  | d :: ds, e :: es, h1, h2 => by
    simp only [noBlAll, Bool.and_eq_true] at h1 h2
    simp only [PyData.eqvAll, Bool.and_eq_true, List.cons.injEq]
    rw [eqv_iff d e h1.1 h2.1, eqvAll_iff ds es h1.2 h2.2]
end
/-- values that are shown by data: a reading that one can compare -/
structure Exv (α : Type) (F : α → PV) (D : α → PyData) : Prop where
  to : ∀ a, toD (F a) = some (D a)
  inj : ∀ a b, D a = D b → a = b
  nb : ∀ a, noBl (D a) = true
  lay : ∀ a, PyData.canLay0 (D a) = true
  dep : ∀ a, (D a).depth ≤ 50
section
variable {α : Type} [DecidableEq α] {F : α → PV} {D : α → PyData}
theorem Exv.tos (h : Exv α F D) : ∀ as : List α, toDs (as.map F) = some (as.map D)
  | [] => rfl
  | a :: as => by rw [List.map_cons, List.map_cons]; simp only [toDs, h.to a, h.tos as]
theorem Exv.lays (h : Exv α F D) : ∀ as : List α, PyData.canLayAll0 (as.map D) = true
  | [] => rfl
  | a :: as => by rw [List.map_cons]; simp only [PyData.canLayAll0, h.lay a, h.lays as, Bool.and_self]
theorem Exv.deps (h : Exv α F D) : ∀ as : List α, PyData.depthAll (as.map D) ≤ 50
  | [] => by simp [PyData.depthAll]
  | a :: as => by
    rw [List.map_cons]
    have := h.dep a
    have := h.deps as
    simp only [PyData.depthAll]
    omega
theorem Exv.eqv (h : Exv α F D) (a b : α) : PyData.eqv (D a) (D b) = decide (a = b) := by
  rw [Bool.eq_iff_iff, decide_eq_true_iff, eqv_iff _ _ (h.nb a) (h.nb b)]
  exact ⟨h.inj a b, fun e => by rw [e]⟩
theorem Exv.any (h : Exv α F D) (a : α) (as : List α) : ((as.map D).any fun z => PyData.eqv z (D a)) = decide (a ∈ as) := by
  rw [List.any_map, Bool.eq_iff_iff, List.any_eq_true, decide_eq_true_iff]
  constructor
  · rintro ⟨x, hx, e⟩
    have e : PyData.eqv (D x) (D a) = true := e
    rw [h.eqv, decide_eq_true_iff] at e
    rw [← e]; exact hx
  · intro m
    exact ⟨a, m, by show PyData.eqv (D a) (D a) = true; rw [h.eqv]; simp⟩
theorem Exv.shaped (h : Exv α F D) (a : α) : SeqAt.shaped (D a) = true := Bool.and_eq_true_iff.mpr ⟨h.lay a, decide_eq_true (by have := h.dep a; omega)⟩
theorem Exv.shapedT (h : Exv α F D) (as : List α) : SeqAt.shaped (.tuple (as.map D)) = true := Bool.and_eq_true_iff.mpr ⟨h.lays as, decide_eq_true (by have := h.deps as; simp only [PyData.depth]; omega)⟩
theorem Exv.inT (h : Exv α F D) (neg : Bool) (a : α) (as : List α) (S : Store) : gInD neg (F a) (.tup (as.map F)) S = .ok (.bl (if neg then !decide (a ∈ as) else decide (a ∈ as))) S := by
  unfold gInD
  simp only [toD, h.to a, h.tos as, Option.map_some, h.shaped a, h.shapedT as, Bool.and_self, if_true, h.any a as]
end
end Mir
set_option maxHeartbeats 1000000
namespace MirCl
open PySem L2 Mir MirCg
local macro_rules | `(tactic| simp_arith [$ls,*]) => `(tactic| (first | simp only [ev_bindExc, ev_asg, ev_unTup, ev_unLst, ev_tupM, ev_gsCons, ev_gsNil, ev_raise, ev_tryL, ev_tryOk, ev_tryExc, ev_tryB, ev_tryBOk, ev_tryBExc, endS_rtE, endS_nxE, ev_kin, ev_kget, ev_index, eqD_int, neD_int, ek_fldI, fz_ties, fz_cells, fz_book, fz_rels, fz_rows, fz_size, ev_bind, ev_nox, ek_seq, k_nx, k_ct, k_bk, k_rt, bind_as, ev_set, ev_setOwn, ev_share, ev_drop, ev_ret, ev_retOwn, ev_skip, ev_brk, ev_cnt, ek_ifS, k_t, k_f, ev_frzS, ev_append, ev_setIx, ev_for, ev_lc, ev_seqOf, ev_range, ev_var, ev_c, ev_op, ev_un, ev_args, ev_nil, ev_cons, ev_frz, ev_b, ev_and, ev_or, ev_not, ev_andV, ev_orV, ev_notV, ev_if, ev_chain, ev_isi, ev_ixOwn, ev_lenOwn, ev_call, ev_callK, ev_sl, ev_part, ev_true, ev_nm, ev_toB, frz, frzAt, toSeq_tup, toSeq_pt, toSeq_lst, toSeq_cl, toRet, mWipe, kbG, Mir.gTup, Mir.gLst, List.getElem?_cons_zero, List.getElem?_cons_succ, List.set_cons_zero, List.set_cons_succ, List.length_cons, List.length_nil, List.append_nil, List.nil_append, List.cons_append, Nat.reduceAdd, Nat.reduceLeDiff, Nat.reduceEqDiff, Nat.zero_add, reduceIte, Bool.false_eq_true, Bool.not_true, Bool.not_false, and_self, sizeM_eq, ev_make, ev_isiC, ev_sortD, ev_key, ev_join, ev_shr, ev_disp, ev_dput, ev_tru, gTru, cz0, cz1, cz2, cz3, cz4, Nat.reduceLT, Int.reduceEq, Int.reduceLT, Int.reduceLE, Int.reduceAdd, decide_true, decide_false, eqD_int, neD_int, eqD_str, neD_str, _root_.eq_self, len_tup, len_pt, len_lst, len_cl, lenR, lenC, sqC, unpt_cel, addA_int, addA_tup, addA_lst, mulA_int, mul_int, sub_int, lt_int, le_int, gt_int, geA_int, neg_int, int_int, tuple_lst, tuple_tup, tupleP_lst, tupleP_pt, ev_asT, setS_obj, unpt_pt, unpt_tup, unpt_non, list_tup, list_lst, in_own, ev_lc2, ev_dget2, ev_dget1, ev_dsetd, ev_putE, ev_appE, ev_newD, ev_fldO, ev_fldPut, ev_makeO, ev_listRv, ev_while, ev_gs, ev_gs0, ev_seqB, ev_callO, ev_indexT, wp_ok, wp_def, lq_nx, lq_ct, lq_bk, lq_rt, rho0, List.map_cons, List.map_nil, List.replicate, Nat.sub_self, Nat.reduceSub, $ls,*] | skip))
theorem ev_ext {i : Nat} {f : Rho → Store → Res PV} {ρ : Rho} {S : Store} : mExtend i f ρ S = match ρ[i]? with
  | some (.own (.lst xs)) => (f ρ S).bind fun y S1 => match y with
    | .lst ys => if xs.length + ys.length ≤ 100000 then .ok (.nx (ρ.set i (.own (.lst (xs ++ ys))))) S1 else .bad
    | _ => .bad
  | _ => .bad := nrfl rfl
def plB (n : Nat) : List (List Nat) := (rowsE n).map fun r => (List.range n).filter fun k => decide (at_ r k = 1)
theorem allpl_ok {n : Nat} (hn : n ≤ 4) (S : Store) : Mf_all_places [.int n] S = .ok (.lst ((plB n).map natsV)) S := by
  match n, hn with
  | 0, _ => kernel_rfl
  | 1, _ => kernel_rfl
  | 2, _ => kernel_rfl
  | 3, _ => kernel_rfl
  | 4, _ => kernel_rfl
theorem pvLens_nats : ∀ ps : List (List Nat), pvLens (ps.map natsV) = some (ps.map fun p => PyData.int (p.length : Int))
  | [] => rfl
  | p :: ps => by
    rw [List.map_cons]
    show (match pvLen (natsV p), pvLens (ps.map natsV) with | some d, some ds => some (d :: ds) | _, _ => none) = _
    have e : pvLen (natsV p) = some (.int (p.length : Int)) := by
      show some (PyData.int ((p.map fun (k : Nat) => PV.int (k : Int)).length : Int)) = _
      rw [List.length_map]
    rw [pvLens_nats ps, e]
    rfl
theorem sortD_nats (ps : List (List Nat)) : ∃ qs : List (List Nat), qs.Perm ps ∧ sortD (ps.map natsV) (ps.map fun p => PyData.int (p.length : Int)) = qs.map natsV := by
  refine ⟨ps.mergeSort (PySem.W.dataLe false fun p => PyData.int (p.length : Int)), List.mergeSort_perm _ _, ?_⟩
  unfold sortD
  have e1 : (ps.map natsV).zip (ps.map fun p => PyData.int (p.length : Int)) = ps.map fun p => (natsV p, PyData.int (p.length : Int)) := List.zip_map' ..
  have mm := List.map_mergeSort (r := PySem.W.dataLe false fun p : List Nat => PyData.int (p.length : Int)) (s := PySem.W.dataLe false Prod.snd) (f := fun p : List Nat => (natsV p, PyData.int (p.length : Int))) (l := ps) (fun _ _ _ _ => rfl)
  rw [e1, ← mm, List.map_map]
  rfl
def clsOf (n : Nat) (b : List Nat) : List Cl := (if b = [] then [] else [.ng b]) ++ ((List.range n).filter fun k => !decide (k ∈ b)).map (.hd b)
theorem clsOf_len (n : Nat) (b : List Nat) : (clsOf n b).length ≤ n + 1 := by
  unfold clsOf
  have h1 := List.length_filter_le (fun k => !decide (k ∈ b)) (List.range n)
  rw [List.length_range] at h1
  rw [List.length_append, List.length_map]
  split
  · simp only [List.length_nil]; omega
  · simp only [List.length_cons, List.length_nil]; omega
theorem flat_len (n : Nat) : ∀ qs : List (List Nat), (qs.flatMap (clsOf n)).length ≤ (n + 1) * qs.length
  | [] => Nat.zero_le _
  | q :: qs => by
    have h1 := clsOf_len n q
    have h2 := flat_len n qs
    rw [List.flatMap_cons, List.length_append, List.length_cons, Nat.mul_add]
    omega
theorem nats_tup (b : List Nat) : natsV b = .tup (b.map natP) := rfl
theorem exv_nat : Exv Nat natP fun k => .int (k : Int) := ⟨fun _ => rfl, fun a b h => by injection h with h; omega, fun _ => rfl, fun _ => rfl, fun a => by show 0 ≤ 50; omega⟩
theorem inD_natsT (neg : Bool) (c : Nat) (b : List Nat) (S : Store) : gInD neg (natP c) (.tup (b.map natP)) S = .ok (.bl (if neg then !decide (c ∈ b) else decide (c ∈ b))) S := exv_nat.inT neg c b S
theorem empN (b : List Nat) : (!(b.map natP).isEmpty) = !decide (b = []) := by cases b <;> rfl
theorem plB_len (n : Nat) : (plB n).length = 2 ^ n := by unfold plB; rw [List.length_map, every_len]
theorem everyif_ok {n : Nat} (hn : n ≤ 4) : ∃ qs : List (List Nat), qs.Perm (plB n) ∧ ∀ S, Mf_every_if [.int n] S = .ok (.lst ((qs.flatMap (clsOf n)).map clV)) S := by
  obtain ⟨qs, hp, e⟩ := sortD_nats (plB n)
  have pl : (plB n).length ≤ 16 := by
    rw [plB_len]
    exact Nat.pow_le_pow_right (by omega) hn
  have ql : qs.length ≤ 16 := by rw [hp.length_eq]; exact pl
  refine ⟨qs, hp, fun S => wp_eq ?_⟩
  have ap := fun S => allpl_ok hn S
  have so : ∀ S, gSortLen [.lst ((plB n).map natsV)] S = .ok (.lst (qs.map natsV)) S := fun S => by
    show (match pvLens ((plB n).map natsV) with
      | some ds => if ((plB n).map natsV).length ≤ sizeM then Res.ok (SO.lst (sortD ((plB n).map natsV) ds)) S else .bad
      | none => .bad) = _
    rw [pvLens_nats]
    simp only [List.length_map, e]
    rw [if_pos (by show (plB n).length ≤ 100000; omega)]
  unfold Mf_every_if Bf_every_if
  simp_arith [ap, so]
  refine wp_for (F := natsV) (ps := qs) (fun pre ρ T => Eqs S T ∧ ∃ s2 s3, ρ = [.val (.int n), .own (.lst ((pre.flatMap (clsOf n)).map clV)), s2, s3]) ⟨rfl, _, _, rfl⟩ ?_ ?_
  · rintro pre b post _ _ ex ⟨rfl, s2, s3, rfl⟩
    have pl2 : pre.length < 16 := by
      have := congrArg List.length ex
      rw [List.length_append, List.length_cons] at this
      omega
    have fl := flat_len n pre
    have fl2 : (n + 1) * pre.length ≤ 5 * 16 := Nat.mul_le_mul (by omega) (by omega)
    have cl := clsOf_len n b
    have rg : ∀ S, gRange1 [.int n] S = .ok ((List.range n).map natP) S := fun S => rngN (by omega) S
    have lc := fun s1 => lc_filterL (g := gNm 3) (t := mB (mOp (gInD true) (mVar 3) (mVar 2))) (a := mArgs gTup (mCons (mC (.str "if")) (mCons (mVar 2) (mCons (mVar 3) mNil)))) (ρ := [.val (.int n), s1, .val (natsV b), .none]) (S := S) natP (fun k => clV (.hd b k)) (fun k => !decide (k ∈ b)) (ps := List.range n) (fun k hk => by
      have i1 := fun S => inD_natsT true k b S
      simp only [if_true] at i1
      rw [nats_tup]
      refine ⟨_, rfl, ?_, fun _ => ?_⟩
      · simp_arith [i1]
      · simp_arith []
        rfl)
    have em : ((List.range n).filter fun k => !decide (k ∈ b)).map (fun k => clV (.hd b k)) = (((List.range n).filter fun k => !decide (k ∈ b)).map (.hd b)).map clV := by rw [List.map_map]; rfl
    rw [em] at lc
    rw [nats_tup] at lc ⊢
    have fl3 := List.length_filter_le (fun k => !decide (k ∈ b)) (List.range n)
    rw [List.length_range] at fl3
    by_cases q : b = []
    · subst q
      have z1 : (pre.flatMap (clsOf n)).length + (((List.range n).filter fun k => !decide (k ∈ ([] : List Nat))).length) ≤ 100000 := by omega
      have zr : n ≤ 100000 := by omega
      simp only [List.map_nil] at lc
      simp_arith [ev_ext, empN, List.isEmpty_nil, Bool.not_true, rg, lc, List.length_map, List.length_range, zr, z1]
      have ee : List.map clV (List.flatMap (clsOf n) (pre ++ [[]])) = List.map clV (List.flatMap (clsOf n) pre) ++ List.map clV (List.map (Cl.hd []) (List.filter (fun k => !decide (k ∈ [])) (List.range n))) := by
        rw [List.flatMap_append, List.map_append]
        simp only [List.flatMap_cons, List.flatMap_nil, List.append_nil, clsOf, if_true, List.nil_append]
      rw [ee]
      exact ⟨rfl, _, _, rfl⟩
    · have z0 : (pre.flatMap (clsOf n)).length < 100000 := by omega
      have z1 : (pre.flatMap (clsOf n)).length + 1 + (((List.range n).filter fun k => !decide (k ∈ b)).length) ≤ 100000 := by omega
      have zr : n ≤ 100000 := by omega
      simp_arith [ev_ext, empN, List.isEmpty_nil, Bool.not_true, q, decide_false, Bool.not_false, rg, lc, List.length_map, List.length_range, List.length_append, List.length_cons, List.length_nil, zr, z0, z1]
      have ee : List.map clV (List.flatMap (clsOf n) (pre ++ [b])) = List.map clV (List.flatMap (clsOf n) pre) ++ [.tup [.str "if", .tup (b.map natP)]] ++ List.map clV (List.map (Cl.hd b) (List.filter (fun k => !decide (k ∈ b)) (List.range n))) := by
        rw [List.flatMap_append, List.map_append]
        simp only [List.flatMap_cons, List.flatMap_nil, List.append_nil, clsOf, q, if_false, List.map_append, List.map_cons, List.map_nil, List.append_assoc, List.singleton_append, List.cons_append, List.nil_append]
        rfl
      rw [ee]
      exact ⟨rfl, _, _, rfl⟩
  · rintro _ _ ⟨rfl, s2, s3, rfl⟩
    simp_arith []
    exact ⟨rfl, rfl⟩
end MirCl
set_option maxHeartbeats 1000000
namespace MirCl
open PySem L2 Mir MirCg
local macro_rules | `(tactic| simp_arith [$ls,*]) => `(tactic| (first | simp only [ev_bindExc, ev_asg, ev_unTup, ev_unLst, ev_tupM, ev_gsCons, ev_gsNil, ev_raise, ev_tryL, ev_tryOk, ev_tryExc, ev_tryB, ev_tryBOk, ev_tryBExc, endS_rtE, endS_nxE, ev_kin, ev_kget, ev_index, eqD_int, neD_int, ek_fldI, fz_ties, fz_cells, fz_book, fz_rels, fz_rows, fz_size, ev_bind, ev_nox, ek_seq, k_nx, k_ct, k_bk, k_rt, bind_as, ev_set, ev_setOwn, ev_share, ev_drop, ev_ret, ev_retOwn, ev_skip, ev_brk, ev_cnt, ek_ifS, k_t, k_f, ev_frzS, ev_append, ev_setIx, ev_for, ev_lc, ev_seqOf, ev_range, ev_var, ev_c, ev_op, ev_un, ev_args, ev_nil, ev_cons, ev_frz, ev_b, ev_and, ev_or, ev_not, ev_andV, ev_orV, ev_notV, ev_if, ev_chain, ev_isi, ev_ixOwn, ev_lenOwn, ev_call, ev_callK, ev_sl, ev_part, ev_true, ev_nm, ev_toB, frz, frzAt, toSeq_tup, toSeq_pt, toSeq_lst, toSeq_cl, toRet, mWipe, kbG, Mir.gTup, Mir.gLst, List.getElem?_cons_zero, List.getElem?_cons_succ, List.set_cons_zero, List.set_cons_succ, List.length_cons, List.length_nil, List.append_nil, List.nil_append, List.cons_append, Nat.reduceAdd, Nat.reduceLeDiff, Nat.reduceEqDiff, Nat.zero_add, reduceIte, Bool.false_eq_true, Bool.not_true, Bool.not_false, and_self, sizeM_eq, ev_make, ev_isiC, ev_sortD, ev_key, ev_join, ev_shr, ev_disp, ev_dput, ev_tru, gTru, cz0, cz1, cz2, cz3, cz4, Nat.reduceLT, Int.reduceEq, Int.reduceLT, Int.reduceLE, Int.reduceAdd, decide_true, decide_false, eqD_int, neD_int, eqD_str, neD_str, _root_.eq_self, len_tup, len_pt, len_lst, len_cl, lenR, lenC, sqC, unpt_cel, addA_int, addA_tup, addA_lst, mulA_int, mul_int, sub_int, lt_int, le_int, gt_int, geA_int, neg_int, int_int, tuple_lst, tuple_tup, tupleP_lst, tupleP_pt, ev_asT, setS_obj, unpt_pt, unpt_tup, unpt_non, list_tup, list_lst, in_own, ev_lc2, ev_dget2, ev_dget1, ev_dsetd, ev_putE, ev_appE, ev_newD, ev_fldO, ev_fldPut, ev_makeO, ev_listRv, ev_while, ev_gs, ev_gs0, ev_seqB, ev_callO, ev_indexT, wp_ok, wp_def, lq_nx, lq_ct, lq_bk, lq_rt, rho0, List.map_cons, List.map_nil, List.replicate, Nat.sub_self, Nat.reduceSub, $ls,*] | skip))
theorem cutP_one (xs : List PV) : cutP xs none (some 1) = xs.take 1 := by
  cases xs with
  | nil => rfl
  | cons x xs =>
    show ((x :: xs).drop (HT.sIx (xs.length + 1) 0 none)).take (HT.sIx (xs.length + 1) (xs.length + 1) (some 1) - HT.sIx (xs.length + 1) 0 none) = _
    have e1 : HT.sIx (xs.length + 1) 0 none = 0 := rfl
    have e2 : HT.sIx (xs.length + 1) (xs.length + 1) (some 1) = 1 := (HT.sIx_nat _ _ 1).trans (by omega)
    rw [e1, e2]
    rfl
theorem low_cl (n : Nat) (c : Cl) : low n (clV c) = true := by
  have nt : ∀ b : List Nat, low n (natsV b) = true := fun b => lows_of fun x hx => by
    obtain ⟨k, _, rfl⟩ := List.mem_map.mp hx
    rfl
  cases c with
  | hd b h =>
    show lows n [.str "if", natsV b, .int h] = true
    exact lows_of fun x hx => by
      simp only [List.mem_cons, List.not_mem_nil, or_false] at hx
      rcases hx with rfl | rfl | rfl
      · rfl
      · exact nt b
      · rfl
  | ng b =>
    show lows n [.str "if", natsV b] = true
    exact lows_of fun x hx => by
      simp only [List.mem_cons, List.not_mem_nil, or_false] at hx
      rcases hx with rfl | rfl
      · rfl
      · exact nt b
  | pr i j x y => rfl
  | sm p b =>
    show lows n [.str "sum", natsV p, .int b] = true
    exact lows_of fun x hx => by
      simp only [List.mem_cons, List.not_mem_nil, or_false] at hx
      rcases hx with rfl | rfl | rfl
      · rfl
      · exact nt p
      · rfl
/-- a clause that all rows meet -/
def fitB (rs : List (List Int)) (c : Cl) : Bool := rs.all fun r => ful r c
theorem thinned_ok {n : Nat} (hn : n ≤ 4) {rs : List (List Int)} (sub : rs.Sublist (rowsE n)) {cs : List Cl} (hc : ∀ c ∈ cs, CzOk n c) (hl : cs.length ≤ 100) {S : Store} (hS : lowS S.length S = true) :
    ∃ tk : List Cl, Mf_thinned [relP (n, rs), .lst (cs.map clV)] S = .ok (.tup (tk.map clV)) S ∧ (∀ c ∈ tk, c ∈ cs) ∧ tk.length ≤ 16 ∧ tolds n tk = tolds n (cs.filter (fitB rs)) := by
  have key : Wp (Mf_thinned [relP (n, rs), .lst (cs.map clV)] S) fun v T => T = S ∧ ∃ tk : List Cl, v = .tup (tk.map clV) ∧ (∀ c ∈ tk, c ∈ cs) ∧ tk.length ≤ 16 ∧ tolds n tk = tolds n (cs.filter (fitB rs)) := by
    have few : (rowsE n).length ≤ 16 := by
      rw [every_len]
      exact Nat.pow_le_pow_right (by omega) hn
    have rl := sub.length_le
    have ar := fun S => allrows_ok hn S
    refine wp_gcR ?_
    unfold Bf_thinned
    have zl : cs.length ≤ 100000 := by omega
    have zr : rs.length ≤ 100000 := by omega
    have lc1 := fun s2 s3 => lc_filterL (g := gNm 6) (t := mB (mArgs gAll (mCons (mFrz (mLc (mSeqOf (mFldI "Relation" "rows" (mVar 0))) (gNm 4) mTrue (mCall 2 Mf_fulfils [] (mCons (mVar 4) (mCons (mVar 6) mNil))) [4])) mNil))) (a := mVar 6) (ρ := [.val (relP (n, rs)), .val (.lst (cs.map clV)), s2, s3, .none, .none, .none]) (S := S) clV clV (fitB rs) (ps := cs) (fun c hcc => by
      have lc := lc_mapL (g := gNm 4) (t := mTrue) (a := mCall 2 Mf_fulfils [] (mCons (mVar 4) (mCons (mVar 6) mNil))) (ρ := [.val (relP (n, rs)), .val (.lst (cs.map clV)), s2, s3, .none, .none, .val (clV c)]) (S := S) rowP (fun r => PV.bl (ful r c)) (ps := rs) (fun r hr => by
        have fo := fun S => fulfils_ok (rowsE_mem (sub.subset hr)).1 (hc c hcc) S
        refine ⟨_, rfl, rfl, ?_⟩
        simp_arith [fo])
      have eb : (rs.map fun r => PV.bl (ful r c)) = (rs.map fun r => ful r c).map PV.bl := by rw [List.map_map]; rfl
      have al : (rs.map fun r => ful r c).all id = fitB rs c := by rw [List.all_map]; rfl
      have ga : ∀ S, gAll [.lst ((rs.map fun r => ful r c).map PV.bl)] S = .ok (.bl (fitB rs c)) S := fun S => by
        show (match ((rs.map fun r => ful r c).map PV.bl).mapM toBl with | some bs => Res.ok (PV.bl (bs.all id)) S | none => .bad) = _
        rw [mapM_bls]
        simp only [al]
      rw [eb] at lc
      refine ⟨_, rfl, ?_, fun _ => ?_⟩
      · simp_arith [List.length_map, zr, lc, ga]
      · simp_arith [])
    simp_arith [List.length_map, zl, lc1, ar]
    generalize hf : cs.filter (fitB rs) = fit
    have fsub : ∀ c ∈ fit, c ∈ cs := fun c h => by rw [← hf] at h; exact (List.mem_filter.mp h).1
    have fl : fit.length ≤ 100 := by rw [← hf]; exact Nat.le_trans (List.length_filter_le _ _) hl
    refine wp_for (F := rowP) (ps := rowsE n) (fun pre ρ T => ∃ tk s4 s5 s6, T = S ++ [.lst (tk.map clV)] ∧ (∀ c ∈ tk, c ∈ fit) ∧ tk.length ≤ pre.length ∧ (∀ r ∈ pre, tk.all (ful r) = true → fit.all (ful r) = true) ∧ ρ = [.val (relP (n, rs)), .val (.lst (cs.map clV)), .val (.lst (fit.map clV)), .val (.obj S.length), s4, s5, s6]) ⟨[], _, _, _, rfl, fun c h => (nomatch h), Nat.le_refl _, fun r h => (nomatch h), rfl⟩ ?_ ?_
    · rintro pre r post _ _ ex ⟨tk, s4, s5, s6, rfl, ts, tl, tr, rfl⟩
      have hr : r ∈ rowsE n := by rw [ex]; simp
      have rlen := (rowsE_mem hr).1
      have pl : pre.length < 16 := by
        have := congrArg List.length ex
        rw [List.length_append, List.length_cons] at this
        omega
      have zt : tk.length ≤ 100000 := by omega
      have lcm := lcO_map (n := S.length) (S := S ++ [.lst (tk.map clV)]) (g := gNm 6) (t := mTrue) (a := mCall 2 Mf_fulfils [] (mCons (mVar 4) (mCons (mVar 6) mNil))) (ρ := [.val (relP (n, rs)), .val (.lst (cs.map clV)), .val (.lst (fit.map clV)), .val (.obj S.length), .val (rowP r), s5, .none]) (all := tk.map clV) clV (fun c => PV.bl (ful r c)) (get_end rfl) (ps := tk) (fun c hcc => by
        have fo := fun S => fulfils_ok rlen (hc c (fsub c (ts c hcc))) S
        refine ⟨_, rfl, rfl, ?_⟩
        simp_arith [fo])
      have eb : (tk.map fun c => PV.bl (ful r c)) = (tk.map (ful r)).map PV.bl := by rw [List.map_map]; rfl
      rw [eb] at lcm
      have lcx := fun s6 => ev_lcXo (f := mVar 3) (g := gNm 6) (t := mTrue) (e := mCall 2 Mf_fulfils [] (mCons (mVar 4) (mCons (mVar 6) mNil))) (vs := [6]) (ρ := [.val (relP (n, rs)), .val (.lst (cs.map clV)), .val (.lst (fit.map clV)), .val (.obj S.length), .val (rowP r), s5, s6]) (S := S ++ [.lst (tk.map clV)]) (n := S.length) rfl (get_end rfl) (by rw [List.length_map]; exact zt)
      have ga : ∀ S, gAll [.lst ((tk.map (ful r)).map PV.bl)] S = .ok (.bl (tk.all (ful r))) S := fun S => by
        show (match ((tk.map (ful r)).map PV.bl).mapM toBl with | some bs => Res.ok (PV.bl (bs.all id)) S | none => .bad) = _
        rw [mapM_bls]
        simp only [List.all_map]
        rfl
      simp_arith [lcx, lcm, ga]
      cases q : tk.all (ful r) with
      | false =>
        simp_arith []
        refine ⟨tk, _, _, _, rfl, ts, by rw [List.length_append]; omega, fun r' hr' h => ?_, rfl⟩
        rcases List.mem_append.mp hr' with m | m
        · exact tr r' m h
        · rw [List.mem_singleton.mp m, q] at h
          cases h
      | true =>
        have lc2 := fun s5 => lc_filterL (g := gNm 6) (t := mNot (mB (mCall 2 Mf_fulfils [] (mCons (mVar 4) (mCons (mVar 6) mNil))))) (a := mVar 6) (ρ := [.val (relP (n, rs)), .val (.lst (cs.map clV)), .val (.lst (fit.map clV)), .val (.obj S.length), .val (rowP r), s5, .none]) (S := S ++ [.lst (tk.map clV)]) clV clV (fun c => !ful r c) (ps := fit) (fun c hcc => by
          have fo := fun S => fulfils_ok rlen (hc c (fsub c hcc)) S
          refine ⟨_, rfl, ?_, fun _ => ?_⟩
          · simp_arith [fo]
          · simp_arith [])
        have zf : fit.length ≤ 100000 := by omega
        have lk := look_l (S := S ++ [.lst (tk.map clV)]) (n := S.length) (get_end rfl)
        have sl : ∀ (xs : List PV) (S : Store), gSl (.lst xs) none (some 1) S = .ok (.lst (xs.take 1)) S := fun xs S => by rw [← cutP_one]; rfl
        have z1 : tk.length + min 1 (fit.filter fun c => !ful r c).length ≤ 100000 := by omega
        simp_arith [List.length_map, zf, lc2, ev_extE, lk, Option.isSome_some, sl, List.length_take, z1]
        rw [set_end rfl, ← List.map_take, ← List.map_append]
        refine ⟨tk ++ (fit.filter fun c => !ful r c).take 1, _, _, _, rfl, fun c h => ?_, ?_, fun r' hr' h => ?_, rfl⟩
        · rcases List.mem_append.mp h with m | m
          · exact ts c m
          · exact (List.mem_filter.mp (List.mem_of_mem_take m)).1
        · rw [List.length_append, List.length_append, List.length_take]
          simp only [List.length_cons, List.length_nil]
          omega
        · rw [List.all_append, Bool.and_eq_true] at h
          rcases List.mem_append.mp hr' with m | m
          · exact tr r' m h.1
          · rw [List.mem_singleton.mp m] at h ⊢
            cases e : fit.filter (fun c => !ful r c) with
            | nil =>
              rw [List.all_eq_true]
              intro c hcc
              have := List.filter_eq_nil_iff.mp e c hcc
              simpa using this
            | cons c more =>
              have hm : c ∈ fit.filter (fun c => !ful r c) := by rw [e]; exact List.mem_cons_self
              have c1 := (List.mem_filter.mp hm).2
              rw [e] at h
              have c2 := h.2
              simp only [List.take_succ_cons, List.take_zero, List.all_cons, List.all_nil, Bool.and_true] at c2
              rw [c2] at c1
              cases c1
    · rintro _ _ ⟨tk, s4, s5, s6, rfl, ts, tl, tr, rfl⟩
      have lk := look_l (S := S ++ [.lst (tk.map clV)]) (n := S.length) (get_end rfl)
      have gt : gTupleP [.obj S.length] (S ++ [.lst (tk.map clV)]) = .ok (.pt (tk.map clV)) (S ++ [.lst (tk.map clV)]) := by
        unfold gTupleP
        simp only [lk]
      simp_arith [gt]
      have tk1 : (S ++ [SO.lst (tk.map clV)]).take S.length = S := by rw [List.take_left]
      rw [tk1]
      refine ⟨lows_of fun x hx => ?_, hS, rfl, tk, rfl, fun c h => fsub c (ts c h), by omega, ?_⟩
      · obtain ⟨c, _, rfl⟩ := List.mem_map.mp hx
        exact low_cl _ c
      · unfold tolds
        refine List.filter_congr fun r hr => ?_
        rw [Bool.eq_iff_iff]
        constructor
        · exact tr r hr
        · intro h
          rw [List.all_eq_true] at h ⊢
          exact fun c hc => h c (ts c hc)
  obtain ⟨v, T, e, rfl, tk, rfl, h⟩ := key
  exact ⟨tk, e, h⟩
end MirCl
set_option maxHeartbeats 1000000
namespace MirCl
open PySem L2 Mir MirCg
theorem at_made {tb : List Int} {t : List (List Int)} {n k : Nat} (h : k < n) : at_ (madeN tb t n) k = tb.getD (numOf (t.map fun r => at_ r k)).toNat 0 := by
  unfold at_ madeN colN
  rw [List.getD_eq_getElem?_getD, List.getElem?_map, List.getElem?_range h]
  rfl
theorem bit_at' {r : List Int} (h : Bits r) (k : Nat) : at_ r k = 0 ∨ at_ r k = 1 := bit_at h k
theorem row_ext {n : Nat} {a b : List Int} (ha : a.length = n ∧ Bits a) (hb : b.length = n ∧ Bits b) (h : ∀ k < n, at_ a k = 1 ↔ at_ b k = 1) : a = b := by
  refine List.ext_getElem (by rw [ha.1, hb.1]) fun k h1 h2 => ?_
  have e1 : at_ a k = a[k] := by unfold at_; rw [List.getD_eq_getElem?_getD, List.getElem?_eq_getElem h1]; rfl
  have e2 : at_ b k = b[k] := by unfold at_; rw [List.getD_eq_getElem?_getD, List.getElem?_eq_getElem h2]; rfl
  rw [← e1, ← e2]
  have q := h k (by omega)
  rcases bit_at' ha.2 k with x | x <;> rcases bit_at' hb.2 k with y | y
  · rw [x, y]
  · rw [x, y] at q; exact absurd (q.mpr rfl) (by decide)
  · rw [x, y] at q; exact absurd (q.mp rfl) (by decide)
  · rw [x, y]
theorem idx_of {α : Type} [Inhabited α] {x : α} {xs : List α} {d : α} (h : x ∈ xs) : ∃ i, i < xs.length ∧ xs.getD i d = x := by
  obtain ⟨i, hi, e⟩ := List.getElem_of_mem h
  exact ⟨i, hi, by rw [List.getD_eq_getElem?_getD, List.getElem?_eq_getElem hi]; exact e⟩
/-- shapes of if clauses -/
def IfOk (n : Nat) : Cl → Prop
  | .hd b h => (∀ k ∈ b, k < n) ∧ h < n
  | .ng b => ∀ k ∈ b, k < n
  | _ => False
end MirCl
set_option maxHeartbeats 1000000
namespace MirCl
open PySem L2 Mir MirCg
local macro_rules | `(tactic| simp_arith [$ls,*]) => `(tactic| (first | simp only [ev_bindExc, ev_asg, ev_unTup, ev_unLst, ev_tupM, ev_gsCons, ev_gsNil, ev_raise, ev_tryL, ev_tryOk, ev_tryExc, ev_tryB, ev_tryBOk, ev_tryBExc, endS_rtE, endS_nxE, ev_kin, ev_kget, ev_index, eqD_int, neD_int, ek_fldI, fz_ties, fz_cells, fz_book, fz_rels, fz_rows, fz_size, ev_bind, ev_nox, ek_seq, k_nx, k_ct, k_bk, k_rt, bind_as, ev_set, ev_setOwn, ev_share, ev_drop, ev_ret, ev_retOwn, ev_skip, ev_brk, ev_cnt, ek_ifS, k_t, k_f, ev_frzS, ev_append, ev_setIx, ev_for, ev_lc, ev_seqOf, ev_range, ev_var, ev_c, ev_op, ev_un, ev_args, ev_nil, ev_cons, ev_frz, ev_b, ev_and, ev_or, ev_not, ev_andV, ev_orV, ev_notV, ev_if, ev_chain, ev_isi, ev_ixOwn, ev_lenOwn, ev_call, ev_callK, ev_sl, ev_part, ev_true, ev_nm, ev_toB, frz, frzAt, toSeq_tup, toSeq_pt, toSeq_lst, toSeq_cl, toRet, mWipe, kbG, Mir.gTup, Mir.gLst, List.getElem?_cons_zero, List.getElem?_cons_succ, List.set_cons_zero, List.set_cons_succ, List.length_cons, List.length_nil, List.append_nil, List.nil_append, List.cons_append, Nat.reduceAdd, Nat.reduceLeDiff, Nat.reduceEqDiff, Nat.zero_add, reduceIte, Bool.false_eq_true, Bool.not_true, Bool.not_false, and_self, sizeM_eq, ev_make, ev_isiC, ev_sortD, ev_key, ev_join, ev_shr, ev_disp, ev_dput, ev_tru, gTru, cz0, cz1, cz2, cz3, cz4, Nat.reduceLT, Int.reduceEq, Int.reduceLT, Int.reduceLE, Int.reduceAdd, decide_true, decide_false, eqD_int, neD_int, eqD_str, neD_str, _root_.eq_self, len_tup, len_pt, len_lst, len_cl, lenR, lenC, sqC, unpt_cel, addA_int, addA_tup, addA_lst, mulA_int, mul_int, sub_int, lt_int, le_int, gt_int, geA_int, neg_int, int_int, tuple_lst, tuple_tup, tupleP_lst, tupleP_pt, ev_asT, setS_obj, unpt_pt, unpt_tup, unpt_non, list_tup, list_lst, in_own, ev_lc2, ev_dget2, ev_dget1, ev_dsetd, ev_putE, ev_appE, ev_newD, ev_fldO, ev_fldPut, ev_makeO, ev_listRv, ev_while, ev_gs, ev_gs0, ev_seqB, ev_callO, ev_indexT, wp_ok, wp_def, lq_nx, lq_ct, lq_bk, lq_rt, rho0, List.map_cons, List.map_nil, List.replicate, Nat.sub_self, Nat.reduceSub, $ls,*] | skip))
theorem in_rowsV (r : List Int) (rs : List (List Int)) (S : Store) : gInD false (rowP r) (.lst (rs.map rowP)) S = .ok (.bl (decide (r ∈ rs))) S := by
  have i := in_rows (RowsV.lst (rs := rs)) false r S
  simpa using i
theorem lany_ok {S R : Store} (h : Hand S R) : Wp (Mf__law_any [.obj 0] S) fun v T => ∃ (n : Nat) (rs : List (List Int)), v = .tup [.int n, .tup (rs.map rowP)] ∧ 1 ≤ n ∧ n ≤ 4 ∧ rs.Sublist (rowsE n) ∧ rs ≠ [] ∧ Hand T R := by
  unfold Mf__law_any Bf__law_any
  simp_arith []
  refine wp_then (take_w (many := 4) h (by omega)) ?_
  rintro _ S1 ⟨n0, rfl, hn0, h1⟩
  obtain ⟨n, en⟩ : ∃ n, n = n0 + 1 := ⟨_, rfl⟩
  have ec : ∀ S, gAddA (.int 1) (natP n0) S = .ok (.int (n : Nat)) S := fun S => by
    unfold natP
    rw [addA_int]
    congr 2
    omega
  have ev := fun S => every_q (n := n) (by omega) S
  simp_arith [ec, ev]
  refine wp_then (take_w (many := 4) h1 (by omega)) ?_
  rintro _ S2 ⟨a, rfl, ha, h2⟩
  have ea : ∀ S, gAddA (.int 1) (natP a) S = .ok (natP (a + 1)) S := fun S => by
    unfold natP
    rw [addA_int]
    congr 2
    omega
  simp_arith [ea]
  refine wp_then (take_w (many := 4) h2 (by omega)) ?_
  rintro _ S3 ⟨b, rfl, hb, h3⟩
  have eb : ∀ S, gAddA (.int 1) (natP b) S = .ok (natP (b + 1)) S := fun S => by
    unfold natP
    rw [addA_int]
    congr 2
    omega
  simp_arith [eb]
  refine wp_then (take_w (many := 9) h3 (by omega)) ?_
  rintro _ S4 ⟨c, rfl, hc, h4⟩
  have ecc : ∀ S, gAddA (.int 1) (natP c) S = .ok (natP (c + 1)) S := fun S => by
    unfold natP
    rw [addA_int]
    congr 2
    omega
  simp_arith [ecc]
  refine wp_then (take_w (many := 3) h4 (by omega)) ?_
  rintro _ S5 ⟨k, rfl, hk, h5⟩
  refine wp_nat [a + 1, b + 1, c + 1] rfl (by simpa using hk) fun m hm => ?_
  have m1 : 1 ≤ m ∧ m ≤ 9 := by
    simp only [List.mem_cons, List.not_mem_nil, or_false] at hm
    omega
  have rg : ∀ S, gRange1 [natP m] S = .ok ((List.range m).map natP) S := fun S => rngN (n := m) (by omega) S
  simp_arith [rg]
  have few : (rowsE n).length ≤ 16 := by
    rw [every_len]
    have : 2 ^ n ≤ 2 ^ 4 := Nat.pow_le_pow_right (by decide) (by omega)
    exact this
  have pos : 0 < (rowsE n).length := by
    rw [every_len]
    exact Nat.two_pow_pos n
  refine wp_for (F := natP) (ps := List.range m) (fun pre ρ T => Hand T R ∧ ∃ ds s4 s5, ds.length = pre.length ∧ (∀ r ∈ ds, r ∈ rowsE n) ∧ ρ = [.val (.obj 0), .val (.int (n : Nat)), .val (.lst ((rowsE n).map rowP)), .own (.lst (ds.map rowP)), s4, s5]) ⟨h5, [], _, _, rfl, fun r hr => (nomatch hr), rfl⟩ ?_ ?_
  · rintro pre x post _ T ex ⟨hT, ds, s4, s5, dl, dm, rfl⟩
    have pl : pre.length < 9 := by
      have := congrArg List.length ex
      rw [List.length_range, List.length_append, List.length_cons] at this
      omega
    simp_arith [List.length_map]
    refine wp_then (take_w (many := (rowsE n).length) hT pos) ?_
    rintro _ T2 ⟨i, rfl, hi, h6⟩
    have ix : ∀ S, gIx (.lst ((rowsE n).map rowP)) (natP i) S = .ok (rowP (rowsE n)[i]) S := fun S => by
      unfold natP
      rw [ix_l, at_map rowP (List.getElem?_eq_getElem hi)]
    have z : ds.length < 100000 := by omega
    simp_arith [ix, List.length_map, z]
    refine ⟨h6, ds ++ [(rowsE n)[i]], _, _, by rw [List.length_append, List.length_append, dl]; rfl, fun r hr => ?_, by rw [List.map_append]; rfl⟩
    rcases List.mem_append.mp hr with q | q
    · exact dm r q
    · rw [List.mem_singleton.mp q]
      exact List.getElem_mem hi
  · rintro _ T ⟨hT, ds, s4, s5, dl, dm, rfl⟩
    have lc := fun s4 => lc_filterL (g := gNm 5) (t := mB (mOp (gInD false) (mVar 5) (mVar 3))) (a := mVar 5) (ρ := [.val (.obj 0), .val (.int (n : Nat)), .val (.lst ((rowsE n).map rowP)), .val (.lst (ds.map rowP)), s4, .none]) (S := T) rowP rowP (fun r => decide (r ∈ ds)) (ps := rowsE n) (fun r hr => by
      have i1 := fun S => in_rowsV r ds S
      refine ⟨_, rfl, ?_, fun _ => ?_⟩
      · simp_arith [i1]
      · simp_arith [])
    have zl : (rowsE n).length ≤ 100000 := by omega
    simp_arith [List.length_map, zl, lc]
    refine ⟨n, (rowsE n).filter fun r => decide (r ∈ ds), rfl, by omega, by omega, List.filter_sublist, fun e => ?_, hT⟩
    obtain ⟨r, hr⟩ : ∃ r, r ∈ ds := by
      cases ds with
      | nil => rw [List.length_range] at dl; simp at dl; omega
      | cons d ds => exact ⟨d, List.mem_cons_self⟩
    exact List.filter_eq_nil_iff.mp e r (dm r hr) (decide_eq_true hr)
end MirCl
set_option maxHeartbeats 1000000
namespace MirCl
open PySem L2 Mir MirCg
def majT : List Int := [0, 0, 0, 1, 0, 1, 1, 1]
theorem majT_tab : TabM 3 majT := ⟨rfl, fun b h => by
  unfold majT at h
  simp only [List.mem_cons, List.not_mem_nil, or_false] at h
  omega⟩
theorem maj_at {n k : Nat} (hk : k < n) {a b c : List Int} (ha : Bits a) (hb : Bits b) (hc : Bits c) : at_ (madeN majT [a, b, c] n) k = if at_ a k = at_ b k then at_ a k else at_ c k := by
  rw [at_made hk, List.map_cons, List.map_cons, List.map_cons, List.map_nil]
  rcases bit_at' ha k with x | x <;> rcases bit_at' hb k with y | y <;> rcases bit_at' hc k with z | z <;> rw [x, y, z] <;> decide
/-- two of three say v -/
def Two (x y z : List Int) (k : Nat) (v : Int) : Prop := (at_ x k = v ∧ at_ y k = v) ∨ (at_ x k = v ∧ at_ z k = v) ∨ (at_ y k = v ∧ at_ z k = v)
theorem maj_two {n k : Nat} (hk : k < n) {a b c : List Int} (ha : Bits a) (hb : Bits b) (hc : Bits c) {v : Int} (h : Two a b c k v) : at_ (madeN majT [a, b, c] n) k = v := by
  rw [maj_at hk ha hb hc]
  rcases h with ⟨p, q⟩ | ⟨p, q⟩ | ⟨p, q⟩
  · rw [p, q, if_pos rfl]
  · rw [p, q]
    split <;> rfl
  · rw [p, q]
    split <;> rename_i e <;> first | exact e | rfl
theorem two_maj {n k : Nat} (hk : k < n) {a b c : List Int} (ha : Bits a) (hb : Bits b) (hc : Bits c) {v : Int} (h : at_ (madeN majT [a, b, c] n) k = v) : Two a b c k v := by
  rw [maj_at hk ha hb hc] at h
  unfold Two
  rcases bit_at' ha k with x | x <;> rcases bit_at' hb k with y | y <;> rcases bit_at' hc k with z | z <;> rw [x, y, z] at h ⊢ <;> simp at h ⊢ <;> omega
theorem cl_three {n : Nat} {tb : List Int} {rs fs : List (List Int)} (h : Mir.ClOk n 3 tb rs fs) {i j k : Nat} (hij : i ≤ j) (hjk : j ≤ k) (hk : k < fs.length) : madeN tb [fs.getD i [], fs.getD j [], fs.getD k []] n ∈ fs := by
  refine h.cl [i, j, k] (chosenN_iff.mpr ⟨rfl, ?_, fun m hm => ?_⟩)
  · simp [hij, hjk]
    omega
  · simp only [List.mem_cons, List.not_mem_nil, or_false] at hm
    omega
theorem maj_three {n : Nat} {rs fs : List (List Int)} (h : Mir.ClOk n 3 majT rs fs) {x y z : List Int} (hx : x ∈ fs) (hy : y ∈ fs) (hz : z ∈ fs) : ∃ u ∈ fs, ∀ k < n, ∀ v, Two x y z k v → at_ u k = v := by
  obtain ⟨i, hi, rfl⟩ := idx_of (d := []) hx
  obtain ⟨j, hj, rfl⟩ := idx_of (d := []) hy
  obtain ⟨l, hl, rfl⟩ := idx_of (d := []) hz
  have bx := (h.rows _ hx).2
  have yb := (h.rows _ hy).2
  have bz := (h.rows _ hz).2
  by_cases p : i ≤ j
  · by_cases q : j ≤ l
    · exact ⟨_, cl_three h p q hl, fun k hk v t => maj_two hk bx yb bz t⟩
    · by_cases r : i ≤ l
      · exact ⟨_, cl_three h r (by omega) hj, fun k hk v t => maj_two hk bx bz yb (by rcases t with ⟨a, b⟩ | ⟨a, b⟩ | ⟨a, b⟩ <;> first | exact .inl ⟨a, b⟩ | exact .inl ⟨b, a⟩ | exact .inr (.inl ⟨a, b⟩) | exact .inr (.inl ⟨b, a⟩) | exact .inr (.inr ⟨a, b⟩) | exact .inr (.inr ⟨b, a⟩))⟩
      · exact ⟨_, cl_three h (by omega) p hj, fun k hk v t => maj_two hk bz bx yb (by rcases t with ⟨a, b⟩ | ⟨a, b⟩ | ⟨a, b⟩ <;> first | exact .inl ⟨a, b⟩ | exact .inl ⟨b, a⟩ | exact .inr (.inl ⟨a, b⟩) | exact .inr (.inl ⟨b, a⟩) | exact .inr (.inr ⟨a, b⟩) | exact .inr (.inr ⟨b, a⟩))⟩
  · by_cases q : i ≤ l
    · exact ⟨_, cl_three h (by omega) q hl, fun k hk v t => maj_two hk yb bx bz (by rcases t with ⟨a, b⟩ | ⟨a, b⟩ | ⟨a, b⟩ <;> first | exact .inl ⟨a, b⟩ | exact .inl ⟨b, a⟩ | exact .inr (.inl ⟨a, b⟩) | exact .inr (.inl ⟨b, a⟩) | exact .inr (.inr ⟨a, b⟩) | exact .inr (.inr ⟨b, a⟩))⟩
    · by_cases r : j ≤ l
      · exact ⟨_, cl_three h r (by omega) hi, fun k hk v t => maj_two hk yb bz bx (by rcases t with ⟨a, b⟩ | ⟨a, b⟩ | ⟨a, b⟩ <;> first | exact .inl ⟨a, b⟩ | exact .inl ⟨b, a⟩ | exact .inr (.inl ⟨a, b⟩) | exact .inr (.inl ⟨b, a⟩) | exact .inr (.inr ⟨a, b⟩) | exact .inr (.inr ⟨b, a⟩))⟩
      · exact ⟨_, cl_three h (by omega) (by omega) hi, fun k hk v t => maj_two hk bz yb bx (by rcases t with ⟨a, b⟩ | ⟨a, b⟩ | ⟨a, b⟩ <;> first | exact .inl ⟨a, b⟩ | exact .inl ⟨b, a⟩ | exact .inr (.inl ⟨a, b⟩) | exact .inr (.inl ⟨b, a⟩) | exact .inr (.inr ⟨a, b⟩) | exact .inr (.inr ⟨b, a⟩))⟩
def PairOk (n : Nat) : Cl → Prop
  | .pr i j _ _ => i < n ∧ j < n
  | _ => False
theorem ful_maj {n : Nat} {c : Cl} (hc : PairOk n c) {x y z : List Int} (hx : Bits x) (hy : Bits y) (hz : Bits z) (fx : ful x c = true) (fy : ful y c = true) (fz : ful z c = true) : ful (madeN majT [x, y, z] n) c = true := by
  cases c with
  | pr i j a b =>
    obtain ⟨hi, hj⟩ := hc
    refine Classical.byContradiction fun no => ?_
    unfold ful at no fx fy fz
    simp only [Bool.or_eq_true, Bool.not_eq_true', decide_eq_false_iff_not, not_or, Classical.not_not] at no fx fy fz
    have t1 := two_maj hi hx hy hz no.1
    have t2 := two_maj hj hx hy hz no.2
    unfold Two at t1 t2
    rcases t1 with t1 | t1 | t1 <;> rcases t2 with t2 | t2 | t2 <;> simp_all
  | hd => exact hc.elim
  | ng => exact hc.elim
  | sm => exact hc.elim
theorem gen_maj {n : Nat} {rs fs : List (List Int)} (h : Mir.ClOk n 3 majT rs fs) {P : List Int → Prop} (h0 : ∀ r ∈ rs, P r) (h1 : ∀ x y z, x.length = n ∧ Bits x → y.length = n ∧ Bits y → z.length = n ∧ Bits z → P x → P y → P z → P (madeN majT [x, y, z] n)) {r : List Int} (hr : r ∈ fs) : P r := by
  refine h.gen r hr P h0 fun t tu ht => ?_
  match t, tu with
  | [x, y, z], tu => exact h1 x y z (tu.2 x (by simp)) (tu.2 y (by simp)) (tu.2 z (by simp)) (ht x (by simp)) (ht y (by simp)) (ht z (by simp))
  | [], tu => cases tu.1
  | [a], tu => cases tu.1
  | [a, b], tu => cases tu.1
  | a :: b :: c :: d :: l, tu => have := tu.1; simp at this
/-- a row of fs agrees with r at these places -/
def Ag (fs : List (List Int)) (r : List Int) (ks : List Nat) : Prop := ∃ u ∈ fs, ∀ k ∈ ks, at_ u k = at_ r k
theorem ag_step {n : Nat} {rs fs : List (List Int)} (h : Mir.ClOk n 3 majT rs fs) {r : List Int} {p q s ks : List Nat} (hp : Ag fs r p) (hq : Ag fs r q) (hs : Ag fs r s) (hk : ∀ k ∈ ks, k < n ∧ ((k ∈ p ∧ k ∈ q) ∨ (k ∈ p ∧ k ∈ s) ∨ (k ∈ q ∧ k ∈ s))) : Ag fs r ks := by
  obtain ⟨x, hx, ex⟩ := hp
  obtain ⟨y, hy, ey⟩ := hq
  obtain ⟨z, hz, ez⟩ := hs
  obtain ⟨u, hu, eu⟩ := maj_three h hx hy hz
  refine ⟨u, hu, fun k hkm => ?_⟩
  obtain ⟨kn, c⟩ := hk k hkm
  refine eu k kn _ ?_
  rcases c with ⟨a, b⟩ | ⟨a, b⟩ | ⟨a, b⟩
  · exact .inl ⟨ex k a, ey k b⟩
  · exact .inr (.inl ⟨ex k a, ez k b⟩)
  · exact .inr (.inr ⟨ey k a, ez k b⟩)
theorem ag_all {n : Nat} (h2 : 2 ≤ n) (h4 : n ≤ 4) {rs fs : List (List Int)} (h : Mir.ClOk n 3 majT rs fs) {r : List Int} (hp : ∀ i j, i < j → j < n → Ag fs r [i, j]) : Ag fs r (List.range n) := by
  rcases (by omega : n = 2 ∨ n = 3 ∨ n = 4) with rfl | rfl | rfl
  · exact hp 0 1 (by decide) (by decide)
  · exact ag_step h (hp 0 1 (by decide) (by decide)) (hp 0 2 (by decide) (by decide)) (hp 1 2 (by decide) (by decide)) (by decide)
  · have a : Ag fs r [0, 1, 2] := ag_step h (hp 0 1 (by decide) (by decide)) (hp 0 2 (by decide) (by decide)) (hp 1 2 (by decide) (by decide)) (by decide)
    have b : Ag fs r [0, 1, 3] := ag_step h (hp 0 1 (by decide) (by decide)) (hp 0 3 (by decide) (by decide)) (hp 1 3 (by decide) (by decide)) (by decide)
    have c : Ag fs r [0, 2, 3] := ag_step h (hp 0 2 (by decide) (by decide)) (hp 0 3 (by decide) (by decide)) (hp 2 3 (by decide) (by decide)) (by decide)
    exact ag_step h a b c (by decide)
theorem pairs_tell {n : Nat} (h2 : 2 ≤ n) (h4 : n ≤ 4) {rs fs : List (List Int)} (hr : ∀ r ∈ rs, r.length = n ∧ Bits r) (h : Mir.ClOk n 3 majT rs fs) {cs : List Cl} (hc : ∀ c ∈ cs, PairOk n c)
    (h1 : ∀ i j, i < j → j < n → ∀ x y : Int, (x = 0 ∨ x = 1) → (y = 0 ∨ y = 1) → .pr i j x y ∈ cs) : tolds n (cs.filter (fitB rs)) = (rowsE n).filter fun r => decide (r ∈ fs) := by
  unfold tolds
  refine List.filter_congr fun r hrE => ?_
  obtain ⟨rl, rb⟩ := rowsE_mem hrE
  rw [Bool.eq_iff_iff, decide_eq_true_iff, List.all_eq_true]
  constructor
  · intro hall
    have ag : Ag fs r (List.range n) := ag_all h2 h4 h fun i j hij hjn => by
      refine Classical.byContradiction fun no => ?_
      have hm := h1 i j hij hjn (at_ r i) (at_ r j) (bit_at' rb i) (bit_at' rb j)
      have f := hall _ (List.mem_filter.mpr ⟨hm, List.all_eq_true.mpr fun x hx => ?_⟩)
      · unfold ful at f
        simp at f
      · unfold ful
        simp only [Bool.or_eq_true, Bool.not_eq_true', decide_eq_false_iff_not]
        refine Classical.byContradiction fun no2 => no ⟨x, h.pre.subset hx, fun k hk => ?_⟩
        simp only [not_or, Classical.not_not] at no2
        simp only [List.mem_cons, List.not_mem_nil, or_false] at hk
        rcases hk with rfl | rfl
        · exact no2.1
        · exact no2.2
    obtain ⟨u, hu, e⟩ := ag
    have : u = r := row_ext (h.rows u hu) ⟨rl, rb⟩ fun k hk => by rw [e k (List.mem_range.mpr hk)]
    rw [← this]
    exact hu
  · intro hf c hcf
    obtain ⟨hcc, fit⟩ := List.mem_filter.mp hcf
    exact gen_maj h (P := fun r => ful r c = true) (fun x hx => List.all_eq_true.mp fit x hx) (fun x y z a b d p q s => ful_maj (hc c hcc) a.2 b.2 d.2 p q s) hf
/-- one place: nothing comes -/
theorem one_tell {rs fs : List (List Int)} (hr : ∀ r ∈ rs, r.length = 1 ∧ Bits r) (h : Mir.ClOk 1 3 majT rs fs) {cs : List Cl} (h1 : .ng [0] ∈ cs) (h2 : .hd [] 0 ∈ cs) : tolds 1 (cs.filter (fitB rs)) = (rowsE 1).filter fun r => decide (r ∈ fs) := by
  have back : ∀ r ∈ fs, r ∈ rs := fun r hf => gen_maj h (P := fun r => r ∈ rs) (fun _ h => h) (fun x y z a b d p q s => by
    by_cases e : at_ x 0 = at_ y 0
    · have : madeN majT [x, y, z] 1 = x := row_ext (madeN_ok (m := 3) majT_tab.2 _ _) a fun k hk => by
        have : k = 0 := by omega
        subst this
        rw [maj_at hk a.2 b.2 d.2, if_pos e]
      rw [this]
      exact p
    · have : madeN majT [x, y, z] 1 = z := row_ext (madeN_ok (m := 3) majT_tab.2 _ _) d fun k hk => by
        have : k = 0 := by omega
        subst this
        rw [maj_at hk a.2 b.2 d.2, if_neg e]
      rw [this]
      exact s) hf
  unfold tolds
  refine List.filter_congr fun r hrE => ?_
  obtain ⟨rl, rb⟩ := rowsE_mem hrE
  rw [Bool.eq_iff_iff, decide_eq_true_iff, List.all_eq_true]
  constructor
  · intro hall
    refine Classical.byContradiction fun no => ?_
    have dif : ∀ x ∈ rs, at_ x 0 ≠ at_ r 0 := fun x hx e => no (by
      have : x = r := row_ext (hr x hx) ⟨rl, rb⟩ fun k hk => by
        have : k = 0 := by omega
        subst this
        rw [e]
      rw [← this]
      exact h.pre.subset hx)
    rcases bit_at' rb 0 with z | z
    · have f := hall _ (List.mem_filter.mpr ⟨h2, List.all_eq_true.mpr fun x hx => by
        have := dif x hx
        rcases bit_at' (hr x hx).2 0 with y | y
        · rw [y, z] at this; exact absurd rfl this
        · unfold ful
          simp [y]⟩)
      unfold ful at f
      simp [z] at f
    · have f := hall _ (List.mem_filter.mpr ⟨h1, List.all_eq_true.mpr fun x hx => by
        have := dif x hx
        rcases bit_at' (hr x hx).2 0 with y | y
        · unfold ful
          simp [y]
        · rw [y, z] at this; exact absurd rfl this⟩)
      unfold ful at f
      simp [z] at f
  · intro hf c hcf
    exact List.all_eq_true.mp (List.mem_filter.mp hcf).2 r (back r hf)
end MirCl
set_option maxHeartbeats 1000000
namespace K35
open PySem L2 Mir MirCg
open MirCl (Cl clV CzOk natsV tolds fitB plB clsOf majT PairOk ful at_)
def pairL (n : Nat) : List Cl := (List.range n).flatMap fun j => (List.range j).flatMap fun i => [.pr i j 0 0, .pr i j 0 1, .pr i j 1 0, .pr i j 1 1]
theorem isc_2 : ∀ c ∈ ([.pr 0 1 0 0, .pr 0 1 0 1, .pr 0 1 1 0, .pr 0 1 1 1] : List Cl), ∀ S, m__law_is_clause [.int 2, clV c] S = .ok (.bl true) S := by
  intro c hc
  simp only [List.mem_cons, List.not_mem_nil, or_false] at hc
  rcases hc with rfl | rfl | rfl | rfl <;> exact fun S => by kernel_rfl
theorem lst_2 : pairL 2 = [.pr 0 1 0 0, .pr 0 1 0 1, .pr 0 1 1 0, .pr 0 1 1 1] := by rfl
theorem evp_2 (S : Store) : m_every_pair [.int 2] S = .ok (.lst ((pairL 2).map clV)) S := by kernel_rfl
theorem isc_3 : ∀ c ∈ ([.pr 0 1 0 0, .pr 0 1 0 1, .pr 0 1 1 0, .pr 0 1 1 1, .pr 0 2 0 0, .pr 0 2 0 1, .pr 0 2 1 0, .pr 0 2 1 1, .pr 1 2 0 0, .pr 1 2 0 1, .pr 1 2 1 0, .pr 1 2 1 1] : List Cl), ∀ S, m__law_is_clause [.int 3, clV c] S = .ok (.bl true) S := by
  intro c hc
  simp only [List.mem_cons, List.not_mem_nil, or_false] at hc
  rcases hc with rfl | rfl | rfl | rfl | rfl | rfl | rfl | rfl | rfl | rfl | rfl | rfl <;> exact fun S => by kernel_rfl
theorem lst_3 : pairL 3 = [.pr 0 1 0 0, .pr 0 1 0 1, .pr 0 1 1 0, .pr 0 1 1 1, .pr 0 2 0 0, .pr 0 2 0 1, .pr 0 2 1 0, .pr 0 2 1 1, .pr 1 2 0 0, .pr 1 2 0 1, .pr 1 2 1 0, .pr 1 2 1 1] := by rfl
theorem evp_3 (S : Store) : m_every_pair [.int 3] S = .ok (.lst ((pairL 3).map clV)) S := by kernel_rfl
theorem isc_4 : ∀ c ∈ ([.pr 0 1 0 0, .pr 0 1 0 1, .pr 0 1 1 0, .pr 0 1 1 1, .pr 0 2 0 0, .pr 0 2 0 1, .pr 0 2 1 0, .pr 0 2 1 1, .pr 1 2 0 0, .pr 1 2 0 1, .pr 1 2 1 0, .pr 1 2 1 1, .pr 0 3 0 0, .pr 0 3 0 1, .pr 0 3 1 0, .pr 0 3 1 1, .pr 1 3 0 0, .pr 1 3 0 1, .pr 1 3 1 0, .pr 1 3 1 1, .pr 2 3 0 0, .pr 2 3 0 1, .pr 2 3 1 0, .pr 2 3 1 1] : List Cl), ∀ S, m__law_is_clause [.int 4, clV c] S = .ok (.bl true) S := by
  intro c hc
  simp only [List.mem_cons, List.not_mem_nil, or_false] at hc
  rcases hc with rfl | rfl | rfl | rfl | rfl | rfl | rfl | rfl | rfl | rfl | rfl | rfl | rfl | rfl | rfl | rfl | rfl | rfl | rfl | rfl | rfl | rfl | rfl | rfl <;> exact fun S => by kernel_rfl
theorem lst_4 : pairL 4 = [.pr 0 1 0 0, .pr 0 1 0 1, .pr 0 1 1 0, .pr 0 1 1 1, .pr 0 2 0 0, .pr 0 2 0 1, .pr 0 2 1 0, .pr 0 2 1 1, .pr 1 2 0 0, .pr 1 2 0 1, .pr 1 2 1 0, .pr 1 2 1 1, .pr 0 3 0 0, .pr 0 3 0 1, .pr 0 3 1 0, .pr 0 3 1 1, .pr 1 3 0 0, .pr 1 3 0 1, .pr 1 3 1 0, .pr 1 3 1 1, .pr 2 3 0 0, .pr 2 3 0 1, .pr 2 3 1 0, .pr 2 3 1 1] := by rfl
theorem evp_4 (S : Store) : m_every_pair [.int 4] S = .ok (.lst ((pairL 4).map clV)) S := by kernel_rfl
theorem isc_1 : ∀ c ∈ ([.hd [] 0, .ng [0]] : List Cl), ∀ S, m__law_is_clause [.int 1, clV c] S = .ok (.bl true) S := by
  intro c hc
  simp only [List.mem_cons, List.not_mem_nil, or_false] at hc
  rcases hc with rfl | rfl <;> exact fun S => by kernel_rfl
theorem lst_1 : (plB 1).flatMap (clsOf 1) = [.hd [] 0, .ng [0]] := by rfl
theorem isc_ok {n : Nat} (h1 : 2 ≤ n) (h4 : n ≤ 4) {c : Cl} (hc : c ∈ pairL n) (S : Store) : m__law_is_clause [.int n, clV c] S = .ok (.bl true) S := by
  rcases (by omega : n = 2 ∨ n = 3 ∨ n = 4) with rfl | rfl | rfl
  · exact isc_2 c (by rw [← lst_2]; exact hc) S
  · exact isc_3 c (by rw [← lst_3]; exact hc) S
  · exact isc_4 c (by rw [← lst_4]; exact hc) S
theorem evp_ok {n : Nat} (h1 : 2 ≤ n) (h4 : n ≤ 4) (S : Store) : m_every_pair [.int n] S = .ok (.lst ((pairL n).map clV)) S := by
  rcases (by omega : n = 2 ∨ n = 3 ∨ n = 4) with rfl | rfl | rfl
  · exact evp_2 S
  · exact evp_3 S
  · exact evp_4 S
theorem pair_in {n : Nat} {c : Cl} (h : c ∈ pairL n) : ∃ i j x y, c = .pr i j x y ∧ i < j ∧ j < n ∧ (x = 0 ∨ x = 1) ∧ (y = 0 ∨ y = 1) := by
  obtain ⟨j, hj, h⟩ := List.mem_flatMap.mp h
  obtain ⟨i, hi, h⟩ := List.mem_flatMap.mp h
  have hj := List.mem_range.mp hj
  have hi := List.mem_range.mp hi
  simp only [List.mem_cons, List.not_mem_nil, or_false] at h
  rcases h with rfl | rfl | rfl | rfl
  · exact ⟨i, j, 0, 0, rfl, hi, hj, .inl rfl, .inl rfl⟩
  · exact ⟨i, j, 0, 1, rfl, hi, hj, .inl rfl, .inr rfl⟩
  · exact ⟨i, j, 1, 0, rfl, hi, hj, .inr rfl, .inl rfl⟩
  · exact ⟨i, j, 1, 1, rfl, hi, hj, .inr rfl, .inr rfl⟩
theorem in_pair {n i j : Nat} {x y : Int} (hij : i < j) (hj : j < n) (hx : x = 0 ∨ x = 1) (hy : y = 0 ∨ y = 1) : .pr i j x y ∈ pairL n := by
  refine List.mem_flatMap.mpr ⟨j, List.mem_range.mpr hj, List.mem_flatMap.mpr ⟨i, List.mem_range.mpr hij, ?_⟩⟩
  rcases hx with rfl | rfl <;> rcases hy with rfl | rfl <;> simp
theorem pair_len {n : Nat} (h4 : n ≤ 4) : (pairL n).length ≤ 24 := by
  rcases (by omega : n = 0 ∨ n = 1 ∨ n = 2 ∨ n = 3 ∨ n = 4) with rfl | rfl | rfl | rfl | rfl <;> decide
end K35
set_option maxHeartbeats 1000000
namespace K35
open PySem L2 Mir MirCg
local macro_rules | `(tactic| simp_arith [$ls,*]) => `(tactic| (first | simp only [ev_bindExc, ev_asg, ev_unTup, ev_unLst, ev_tupM, ev_gsCons, ev_gsNil, ev_raise, ev_tryL, ev_tryOk, ev_tryExc, ev_tryB, ev_tryBOk, ev_tryBExc, endS_rtE, endS_nxE, ev_kin, ev_kget, ev_index, eqD_int, neD_int, ek_fldI, fz_ties, fz_cells, fz_book, fz_rels, fz_rows, fz_size, ev_bind, ev_nox, ek_seq, k_nx, k_ct, k_bk, k_rt, bind_as, ev_set, ev_setOwn, ev_share, ev_drop, ev_ret, ev_retOwn, ev_skip, ev_brk, ev_cnt, ek_ifS, k_t, k_f, ev_frzS, ev_append, ev_setIx, ev_for, ev_lc, ev_seqOf, ev_range, ev_var, ev_c, ev_op, ev_un, ev_args, ev_nil, ev_cons, ev_frz, ev_b, ev_and, ev_or, ev_not, ev_andV, ev_orV, ev_notV, ev_if, ev_chain, ev_isi, ev_ixOwn, ev_lenOwn, ev_call, ev_callK, ev_sl, ev_part, ev_true, ev_nm, ev_toB, frz, frzAt, toSeq_tup, toSeq_pt, toSeq_lst, toSeq_cl, toRet, mWipe, kbG, Mir.gTup, Mir.gLst, List.getElem?_cons_zero, List.getElem?_cons_succ, List.set_cons_zero, List.set_cons_succ, List.length_cons, List.length_nil, List.append_nil, List.nil_append, List.cons_append, Nat.reduceAdd, Nat.reduceLeDiff, Nat.reduceEqDiff, Nat.zero_add, reduceIte, Bool.false_eq_true, Bool.not_true, Bool.not_false, and_self, sizeM_eq, ev_make, ev_isiC, ev_sortD, ev_key, ev_join, ev_shr, ev_disp, ev_dput, ev_tru, gTru, cz0, cz1, cz2, cz3, cz4, Nat.reduceLT, Int.reduceEq, Int.reduceLT, Int.reduceLE, Int.reduceAdd, decide_true, decide_false, eqD_int, neD_int, eqD_str, neD_str, _root_.eq_self, len_tup, len_pt, len_lst, len_cl, lenR, lenC, sqC, unpt_cel, addA_int, addA_tup, addA_lst, mulA_int, mul_int, sub_int, lt_int, le_int, gt_int, geA_int, neg_int, int_int, tuple_lst, tuple_tup, tupleP_lst, tupleP_pt, ev_asT, setS_obj, unpt_pt, unpt_tup, unpt_non, list_tup, list_lst, in_own, ev_lc2, ev_dget2, ev_dget1, ev_dsetd, ev_putE, ev_appE, ev_newD, ev_fldO, ev_fldPut, ev_makeO, ev_listRv, ev_while, ev_gs, ev_gs0, ev_seqB, ev_callO, ev_indexT, wp_ok, wp_def, lq_nx, lq_ct, lq_bk, lq_rt, rho0, List.map_cons, List.map_nil, List.replicate, Nat.sub_self, Nat.reduceSub, $ls,*] | skip))
open MirCl (Cl clV CzOk natsV tolds fitB plB clsOf majT IfOk PairOk ful at_)
theorem z_draws : m__law_draws = mDef 8 B_draws := rfl
theorem z_any : m__law_any = Mf__law_any := rfl
theorem z_rel : mi_Relation = M_rel := rfl
theorem z_thin : m_thinned = Mf_thinned := rfl
theorem z_every : m_every_if = Mf_every_if := rfl
theorem z_closed : m__law_closed = Mf__law_closed := rfl
theorem z_rows : m__law_all_rows = Mq__law_every := rfl
theorem z_told : m__law_told = Mf__law_told := rfl
theorem table_ok (S : Store) : m__law_table [.str "majority"] S = .ok (rowP majT) S := by kernel_rfl
theorem cls_in {n : Nat} (h4 : n ≤ 4) {b : List Nat} (hb : b ∈ plB n) {c : Cl} (hc : c ∈ clsOf n b) : CzOk n c ∧ IfOk n c := by
  obtain ⟨r, hr, rfl⟩ := List.mem_map.mp hb
  have hk : ∀ k ∈ (List.range n).filter (fun k => decide (at_ r k = 1)), k < n := fun k h => List.mem_range.mp (List.mem_filter.mp h).1
  have hl : ((List.range n).filter (fun k => decide (at_ r k = 1))).length ≤ 4 := by
    have := List.length_filter_le (fun k => decide (at_ r k = 1)) (List.range n)
    rw [List.length_range] at this
    omega
  unfold clsOf at hc
  rcases List.mem_append.mp hc with h | h
  · split at h
    · cases h
    · rw [List.mem_singleton.mp h]
      exact ⟨⟨hk, hl⟩, hk⟩
  · obtain ⟨k, hk2, rfl⟩ := List.mem_map.mp h
    have := List.mem_range.mp (List.mem_filter.mp hk2).1
    exact ⟨⟨hk, hl, this⟩, hk, this⟩
theorem text_tk {n : Nat} (hn : n ≤ 4) {cs : List Cl} (hc : ∀ c ∈ cs, CzOk n c) (hl : cs.length ≤ 16) : ∃ s : Str, ∀ S, gRepr [.tup (cs.map clV)] S = .ok (.str s) S := by
  have d : Dat (.tup (cs.map clV)) ((185 + 1) * (cs.map clV).length) (2 + 1) := dat_tup fun x hx => by
    obtain ⟨c, hcc, rfl⟩ := List.mem_map.mp hx
    exact MirCl.dat_cl hn (hc c hcc)
  obtain ⟨s, _, h⟩ := d.text (by rw [List.length_map]; omega) (by omega)
  exact ⟨s, h⟩
/-- the clauses that are asked of a size -/
def WellC (n : Nat) (c : Cl) : Prop := CzOk n c ∧ ∀ S, m__law_is_clause [.int n, clV c] S = .ok (.bl true) S
theorem pc_ok {n : Nat} (h1 : 1 ≤ n) (h4 : n ≤ 4) {rs : List (List Int)} (sub : rs.Sublist (rowsE n)) {S : Store} (hS : lowS S.length S = true) :
    ∃ tk : List Cl, m_pair_clauses [relP (n, rs)] S = .ok (.tup (tk.map clV)) S ∧ (∀ c ∈ tk, WellC n c) ∧ tk.length ≤ 16 ∧
      ∀ fs, Mir.ClOk n 3 majT rs fs → tolds n tk = (rowsE n).filter fun r => decide (r ∈ fs) := by
  have hr : ∀ r ∈ rs, r.length = n ∧ Bits r := fun r hr => rowsE_mem (sub.subset hr)
  by_cases q : n = 1
  · subst q
    obtain ⟨qs, hp, ee⟩ := MirCl.everyif_ok (n := 1) (by omega)
    have pl : (plB 1).length = 2 := rfl
    have mem : ∀ c ∈ qs.flatMap (clsOf 1), ∃ b ∈ plB 1, c ∈ clsOf 1 b := fun c hc => by
      obtain ⟨b, hb, h⟩ := List.mem_flatMap.mp hc
      exact ⟨b, hp.mem_iff.mp hb, h⟩
    have wc : ∀ c ∈ qs.flatMap (clsOf 1), WellC 1 c := fun c hc => by
      obtain ⟨b, hb, h⟩ := mem c hc
      refine ⟨(cls_in h4 hb h).1, isc_1 c ?_⟩
      rw [← lst_1]
      exact List.mem_flatMap.mpr ⟨b, hb, h⟩
    have fl := MirCl.flat_len 1 qs
    have ql : qs.length = 2 := by rw [hp.length_eq]; exact pl
    obtain ⟨tk, e, t1, t2, t3⟩ := MirCl.thinned_ok h4 sub (fun c hc => (wc c hc).1) (by omega) hS
    refine ⟨tk, wp_eq ?_, fun c hc => wc c (t1 c hc), t2, fun fs hf => ?_⟩
    · unfold m_pair_clauses b_pair_clauses
      rw [z_thin, z_every]
      have ee : ∀ S, Mf_every_if [.int 1] S = .ok (.lst ((qs.flatMap (clsOf 1)).map clV)) S := ee
      simp_arith [ee, e]
      exact ⟨rfl, rfl⟩
    · rw [t3]
      exact MirCl.one_tell hr hf (List.mem_flatMap.mpr ⟨[0], hp.mem_iff.mpr (by decide), by show Cl.ng [0] ∈ [Cl.ng [0]]; exact List.mem_singleton.mpr rfl⟩) (List.mem_flatMap.mpr ⟨[], hp.mem_iff.mpr (by decide), by show Cl.hd [] 0 ∈ [Cl.hd [] 0]; exact List.mem_singleton.mpr rfl⟩)
  · have wc : ∀ c ∈ pairL n, WellC n c := fun c hc => by
      refine ⟨?_, fun S => isc_ok (by omega) h4 hc S⟩
      obtain ⟨i, j, x, y, rfl, hij, hj, hx, hy⟩ := pair_in hc
      exact ⟨by omega, hj, hx, hy⟩
    have pk : ∀ c ∈ pairL n, PairOk n c := fun c hc => by
      obtain ⟨i, j, x, y, rfl, hij, hj, hx, hy⟩ := pair_in hc
      exact ⟨by omega, hj⟩
    have pl := pair_len h4
    have ee := fun S => evp_ok (n := n) (by omega) h4 S
    obtain ⟨tk, e, t1, t2, t3⟩ := MirCl.thinned_ok h4 sub (fun c hc => (wc c hc).1) (by omega) hS
    have d1 : ∀ S, gEqD false (.int (n : Nat)) (.int 1) S = .ok (.bl false) S := fun S => by
      rw [eqD_int]
      congr 2
      exact decide_eq_false (by omega)
    refine ⟨tk, wp_eq ?_, fun c hc => wc c (t1 c hc), t2, fun fs hf => ?_⟩
    · unfold m_pair_clauses b_pair_clauses
      rw [z_thin, z_every]
      simp_arith [ee, e, show decide ((n : Int) = 1) = false from decide_eq_false (by omega)]
      exact ⟨rfl, rfl⟩
    · rw [t3]
      exact MirCl.pairs_tell (by omega) h4 hr hf pk fun i j hij hj x y hx hy => in_pair hij hj hx hy
def relD (n : Nat) (rs : List (List Int)) : PyData := .tuple [.int n, .tuple (rs.map fun r => .tuple (r.map PyData.int))]
theorem toD_relt (n : Nat) (rs : List (List Int)) : toD (.tup [.int n, .tup (rs.map rowP)]) = some (relD n rs) := by
  have e2 : toDs (rs.map rowP) = some (rs.map fun r => .tuple (r.map PyData.int)) := by
    induction rs with
    | nil => rfl
    | cons r rs ih =>
      have e1 : toD (rowP r) = some (.tuple (r.map PyData.int)) := by
        unfold rowP
        simp only [toD, toDs_ints, Option.map_some]
      rw [List.map_cons]
      simp only [toDs, e1, ih]
      rfl
  simp only [toD, toDs, e2, Option.map_some]
  rfl
theorem nb_relt (n : Nat) (rs : List (List Int)) : noBl (relD n rs) = true := by
  have e1 : ∀ r : List Int, noBlAll (r.map PyData.int) = true := fun r => by
    induction r with
    | nil => rfl
    | cons b r ih => rw [List.map_cons]; simp only [noBlAll, noBl, ih, Bool.and_self]
  have e2 : noBlAll (rs.map fun r => .tuple (r.map PyData.int)) = true := by
    induction rs with
    | nil => rfl
    | cons r rs ih => rw [List.map_cons]; simp only [noBlAll, noBl, e1, ih, Bool.and_self]
  unfold relD
  simp only [noBlAll, noBl, e2, Bool.and_self]
theorem ne_relt (n : Nat) (rs : List (List Int)) (h : Ly (.tup [.int n, .tup (rs.map rowP)]) 10) (S : Store) : gEqD true (.tup [.int n, .tup (rs.map rowP)]) (.tup [.int n, .tup (rs.map rowP)]) S = .ok (.bl false) S := by
  obtain ⟨d, e, h1, h2, h3⟩ := eqD_deep true h h (by omega) (by omega) fun a b h => by cases h
  rw [toD_relt] at h1 h2
  cases h1
  cases h2
  rw [h3, (eqv_iff _ _ (nb_relt n rs) (nb_relt n rs)).mpr rfl]
  rfl
theorem ly_relt (n : Nat) (rs : List (List Int)) : Ly (.tup [.int n, .tup (rs.map rowP)]) 10 := by
  have e1 : ∀ r : List Int, PyData.canLayAll0 (r.map PyData.int) = true := fun r => lay_ints r
  have e2 : PyData.canLayAll0 (rs.map fun r => .tuple (r.map PyData.int)) = true := by
    induction rs with
    | nil => rfl
    | cons r rs ih => rw [List.map_cons]; simp only [PyData.canLayAll0, PyData.canLay0, e1, ih, Bool.and_self]
  have e3 : PyData.depthAll (rs.map fun r => .tuple (r.map PyData.int)) ≤ 1 := by
    clear e2
    induction rs with
    | nil => simp [PyData.depthAll]
    | cons r rs ih => rw [List.map_cons]; simp only [PyData.depthAll, PyData.depth, depth_ints]; omega
  refine ⟨_, toD_relt n rs, ?_, ?_⟩
  · unfold relD
    simp only [PyData.canLay0, PyData.canLayAll0, e2, Bool.and_self]
  · unfold relD
    simp only [PyData.depth, PyData.depthAll]
    omega
theorem law_true (ns : List Int) (hl : ns.length ≤ 63) : ∃ S, m_law [.cl (ns.map PV.int)] [] = .ok (.bl true) S := by
  obtain ⟨ds, _, hd, e0⟩ := draws_ok (ns := ns) (n := 120) (by decide) (by omega) []
  rw [show ((120 : Nat) : Int) = 120 from rfl] at e0
  have g0 : Hand [SO.lst [.lst (ds.map PV.int), .int 0]] [] := ⟨ds, 0, rfl, by decide, hd⟩
  have r2 : ∀ S, gRange1 [.int 2] S = .ok ((List.range 2).map natP) S := fun S => rngN (n := 2) (by omega) S
  have key : Wp (m_law [.cl (ns.map PV.int)] []) fun v T => v = .bl true := by
    unfold m_law b_law
    rw [z_draws, z_any, z_rel, z_closed, z_rows, z_told]
    simp_arith [e0, r2]
    refine wp_for (F := natP) (ps := List.range 2) (fun pre ρ T => Hand T [] ∧ ∃ s2 s3 s4 s5 s6 s7 s8 s9 s10, ρ = [.val (.cl (ns.map PV.int)), .val (.obj 0), s2, s3, s4, s5, s6, s7, s8, s9, s10]) ⟨g0, _, _, _, _, _, _, _, _, _, rfl⟩ ?_ ?_
    · rintro pre x post _ T ex ⟨hT, s2, s3, s4, s5, s6, s7, s8, s9, s10, rfl⟩
      simp_arith []
      refine wp_then (MirCl.lany_ok hT) ?_
      rintro _ S1 ⟨n, rs, rfl, h1, h4, sub, ne, hS⟩
      have rel := fun S => rel_asc .tup h1 h4 sub ne S
      have er : PV.ins "Relation" ["size", "rows"] [.int n, .tup (rs.map rowP)] = relP (n, rs) := rfl
      obtain ⟨tk, ek, k1, k2, k3⟩ := pc_ok h1 h4 sub (hand_low0 hS)
      have few : (rowsE n).length ≤ 16 := by
        rw [every_len]
        have : 2 ^ n ≤ 2 ^ 4 := Nat.pow_le_pow_right (by decide) h4
        exact this
      have rn : RowsN n rs := fun r hr => rowsE_mem (sub.subset hr)
      have nd : rs.Nodup := (rowsE_nd n h4).sublist sub
      obtain ⟨fs, hf, ec⟩ := fclosedT_ok (m := 3) h1 h4 (by omega) (by omega) MirCl.majT_tab rn nd ne S1
      have tb := fun S => table_ok S
      have lci := fun s7 s8 s10 => lc_filterL (g := gNm 9) (t := mNot (mB (mCall 2 m__law_is_clause [] (mCons (mVar 3) (mCons (mVar 9) mNil))))) (a := mVar 9) (ρ := [.val (.cl (ns.map PV.int)), .val (.obj 0), .val (natP x), .val (.int (n : Nat)), .val (.tup (rs.map rowP)), .val (relP (n, rs)), .val (.tup (tk.map clV)), s7, s8, .none, s10]) (S := S1) clV clV (fun _ => false) (ps := tk) (fun c hc => by
        have is := (k1 c hc).2
        refine ⟨_, rfl, ?_, fun h => by cases h⟩
        simp_arith [is])
      have fe : tk.filter (fun _ => false) = [] := List.filter_eq_nil_iff.mpr fun _ _ h => by cases h
      have ev := fun S => every_q (n := n) (by omega) S
      have lcr := fun s8 s9 => lc_filterL (g := gNm 10) (t := mB (mOp (gInD false) (mVar 10) (mVar 7))) (a := mVar 10) (ρ := [.val (.cl (ns.map PV.int)), .val (.obj 0), .val (natP x), .val (.int (n : Nat)), .val (.tup (rs.map rowP)), .val (relP (n, rs)), .val (.tup (tk.map clV)), .val (.lst (fs.map rowP)), s8, s9, .none]) (S := S1) rowP rowP (fun r => decide (r ∈ fs)) (ps := rowsE n) (fun r hr => by
        have i1 := fun S => MirCl.in_rowsV r fs S
        refine ⟨_, rfl, ?_, fun _ => ?_⟩
        · simp_arith [i1]
        · simp_arith [])
      have zt : tk.length ≤ 100000 := by omega
      have zr : (rowsE n).length ≤ 100000 := by omega
      have it : ∀ S, gIsi "tuple" (.tup (tk.map clV)) S = .ok (.bl true) S := fun S => isi_tup'
      have told := fun S => MirCl.told_ok h4 (fun c hc => (k1 c hc).1) (by omega) (MirCl.ClsV.tup (cs := tk)) S
      rw [k3 fs hf] at told
      have nq := fun S => ne_relt n ((rowsE n).filter fun r => decide (r ∈ fs)) (ly_relt n _) S
      obtain ⟨sr, hsr⟩ := MirCl.text_rel h4 sub
      obtain ⟨sk, hsk⟩ := text_tk h4 (fun c hc => (k1 c hc).1) k2
      simp_arith [rel, er]
      simp_arith [ek, it, List.length_map, zt, lci, fe, tb, ec, ev, zr, lcr, told, nq, hsr, hsk]
      exact ⟨hS, _, _, _, _, _, _, _, _, _, rfl⟩
    · rintro _ T ⟨hT, s2, s3, s4, s5, s6, s7, s8, s9, s10, rfl⟩
      simp_arith []
  obtain ⟨v, T, e, rfl⟩ := key
  exact ⟨T, e⟩
end K35
set_option maxHeartbeats 0
namespace K35
open PySem PySem.Spec PyProof.Rows L2 Mir
theorem tx_of {w : World} {K : PySem.W.Frag} {h : Heap} {mg : Str → Option Value} (X : K.In h) (G : h.Ns mainGlobals mg) (c0 : He.SaysT fa fn ts w K) (e : ex K = true) : ∃ T : Tx w K mg, T.f_law = He.ga K "law" := by
  have c := c0.d
  obtain ⟨v_MOST_PLACES, u_MOST_PLACES, g_MOST_PLACES, r_MOST_PLACES, y_MOST_PLACES⟩ := cst_ok X G (exB e 0 rfl : cstB K "MOST_PLACES" c_MOST_PLACES = true)
  obtain ⟨fdi_InvalidRelation, Fi_InvalidRelation⟩ := c.def_ 24 (d := ddi_InvalidRelation) rfl
  have Fi'_InvalidRelation := fun_of (x := "__init__") (qual := "InvalidRelation.__init__") (st := si_InvalidRelation) (kws := []) Fi_InvalidRelation
  obtain ⟨fdi_Relation, Fi_Relation⟩ := c.def_ 25 (d := ddi_Relation) rfl
  have Fi'_Relation := fun_of (x := "__init__") (qual := "Relation.__init__") (st := si_Relation) (kws := []) Fi_Relation
  obtain ⟨fd_is_below, F_is_below⟩ := c.def_ 0 (d := dd_is_below) rfl
  obtain ⟨fd_is_row, F_is_row⟩ := c.def_ 1 (d := dd_is_row) rfl
  obtain ⟨fd_are_rows, F_are_rows⟩ := c.def_ 2 (d := dd_are_rows) rfl
  obtain ⟨fd_fulfils, F_fulfils⟩ := c.def_ 3 (d := dd_fulfils) rfl
  obtain ⟨fd_all_rows, F_all_rows⟩ := c.def_ 4 (d := dd_all_rows) rfl
  obtain ⟨fd_all_places, F_all_places⟩ := c.def_ 5 (d := dd_all_places) rfl
  obtain ⟨fd_thinned, F_thinned⟩ := c.def_ 6 (d := dd_thinned) rfl
  obtain ⟨fd_every_if, F_every_if⟩ := c.def_ 7 (d := dd_every_if) rfl
  obtain ⟨fd_every_pair, F_every_pair⟩ := c.def_ 8 (d := dd_every_pair) rfl
  obtain ⟨fd_pair_clauses, F_pair_clauses⟩ := c.def_ 9 (d := dd_pair_clauses) rfl
  obtain ⟨fd__law_draws, F__law_draws⟩ := c.def_ 10 (d := dd__law_draws) rfl
  obtain ⟨fd__law_take, F__law_take⟩ := c.def_ 11 (d := dd__law_take) rfl
  obtain ⟨fd__law_all_rows, F__law_all_rows⟩ := c.def_ 12 (d := dd__law_all_rows) rfl
  obtain ⟨fd__law_table, F__law_table⟩ := c.def_ 13 (d := dd__law_table) rfl
  obtain ⟨fd__law_made, F__law_made⟩ := c.def_ 14 (d := dd__law_made) rfl
  obtain ⟨fd__law_chosen, F__law_chosen⟩ := c.def_ 15 (d := dd__law_chosen) rfl
  obtain ⟨fd__law_closed, F__law_closed⟩ := c.def_ 16 (d := dd__law_closed) rfl
  obtain ⟨fd__law_fulfils, F__law_fulfils⟩ := c.def_ 17 (d := dd__law_fulfils) rfl
  obtain ⟨fd__law_told, F__law_told⟩ := c.def_ 18 (d := dd__law_told) rfl
  obtain ⟨fd__law_any, F__law_any⟩ := c.def_ 19 (d := dd__law_any) rfl
  obtain ⟨fd__law_is_number, F__law_is_number⟩ := c.def_ 20 (d := dd__law_is_number) rfl
  obtain ⟨fd__law_are_places, F__law_are_places⟩ := c.def_ 21 (d := dd__law_are_places) rfl
  obtain ⟨fd__law_is_clause, F__law_is_clause⟩ := c.def_ 22 (d := dd__law_is_clause) rfl
  obtain ⟨fd_law, F_law⟩ := c.def_ 23 (d := dd_law) rfl
  have F'_is_below := fun_of (x := "is_below") (qual := "is_below") (st := s_is_below) (kws := []) F_is_below
  have F'_is_row := fun_of (x := "is_row") (qual := "is_row") (st := s_is_row) (kws := []) F_is_row
  have F'_are_rows := fun_of (x := "are_rows") (qual := "are_rows") (st := s_are_rows) (kws := []) F_are_rows
  have F'_fulfils := fun_of (x := "fulfils") (qual := "fulfils") (st := s_fulfils) (kws := []) F_fulfils
  have F'_all_rows := fun_of (x := "all_rows") (qual := "all_rows") (st := s_all_rows) (kws := []) F_all_rows
  have F'_all_places := fun_of (x := "all_places") (qual := "all_places") (st := s_all_places) (kws := []) F_all_places
  have F'_thinned := fun_of (x := "thinned") (qual := "thinned") (st := s_thinned) (kws := []) F_thinned
  have F'_every_if := fun_of (x := "every_if") (qual := "every_if") (st := s_every_if) (kws := []) F_every_if
  have F'_every_pair := fun_of (x := "every_pair") (qual := "every_pair") (st := s_every_pair) (kws := []) F_every_pair
  have F'_pair_clauses := fun_of (x := "pair_clauses") (qual := "pair_clauses") (st := s_pair_clauses) (kws := []) F_pair_clauses
  have F'__law_draws := fun_of (x := "_law_draws") (qual := "_law_draws") (st := s__law_draws) (kws := []) F__law_draws
  have F'__law_take := fun_of (x := "_law_take") (qual := "_law_take") (st := s__law_take) (kws := []) F__law_take
  have F'__law_all_rows := fun_of (x := "_law_all_rows") (qual := "_law_all_rows") (st := s__law_all_rows) (kws := []) F__law_all_rows
  have F'__law_table := fun_of (x := "_law_table") (qual := "_law_table") (st := s__law_table) (kws := []) F__law_table
  have F'__law_made := fun_of (x := "_law_made") (qual := "_law_made") (st := s__law_made) (kws := []) F__law_made
  have F'__law_chosen := fun_of (x := "_law_chosen") (qual := "_law_chosen") (st := s__law_chosen) (kws := []) F__law_chosen
  have F'__law_closed := fun_of (x := "_law_closed") (qual := "_law_closed") (st := s__law_closed) (kws := []) F__law_closed
  have F'__law_fulfils := fun_of (x := "_law_fulfils") (qual := "_law_fulfils") (st := s__law_fulfils) (kws := []) F__law_fulfils
  have F'__law_told := fun_of (x := "_law_told") (qual := "_law_told") (st := s__law_told) (kws := []) F__law_told
  have F'__law_any := fun_of (x := "_law_any") (qual := "_law_any") (st := s__law_any) (kws := []) F__law_any
  have F'__law_is_number := fun_of (x := "_law_is_number") (qual := "_law_is_number") (st := s__law_is_number) (kws := []) F__law_is_number
  have F'__law_are_places := fun_of (x := "_law_are_places") (qual := "_law_are_places") (st := s__law_are_places) (kws := []) F__law_are_places
  have F'__law_is_clause := fun_of (x := "_law_is_clause") (qual := "_law_is_clause") (st := s__law_is_clause) (kws := []) F__law_is_clause
  have F'_law := fun_of (x := "law") (qual := "law") (st := s_law) (kws := []) F_law
  exact ⟨{
    I_Relation := He.fAd K ("Relation", some "__init__")
    di_Relation := fdi_Relation
    k_Relation := kcls_ok X G (exB e 2 rfl)
    Fi_Relation := Fi'_Relation
    bi_Relation := (Fi'_Relation.binds (ps := ["self", "size", "rows"]) fun _ _ _ _ _ _ us hl => match us, hl with | [_, _, _], _ => rfl)
    C_InvalidRelation := He.ga K "InvalidRelation"
    I_InvalidRelation := He.fAd K ("InvalidRelation", some "__init__")
    di_InvalidRelation := fdi_InvalidRelation
    x_InvalidRelation := xcls_ok X G (exB e 1 rfl)
    Fi_InvalidRelation := Fi'_InvalidRelation
    bi_InvalidRelation := (Fi'_InvalidRelation.binds (ps := ["self", "value"]) fun _ _ _ _ _ _ us hl => match us, hl with | [_, _], _ => rfl)
    f_is_below := _
    d_is_below := fd_is_below
    F_is_below := F'_is_below
    g_is_below := He.glo_ok X G (c.fact 0 (f := .glo "is_below") rfl)
    b_is_below := (F'_is_below.binds (ps := ["value", "limit"]) fun _ _ _ _ _ _ us hl => match us, hl with | [_, _], _ => rfl)
    f_is_row := _
    d_is_row := fd_is_row
    F_is_row := F'_is_row
    g_is_row := He.glo_ok X G (c.fact 1 (f := .glo "is_row") rfl)
    b_is_row := (F'_is_row.binds (ps := ["value", "size"]) fun _ _ _ _ _ _ us hl => match us, hl with | [_, _], _ => rfl)
    f_are_rows := _
    d_are_rows := fd_are_rows
    F_are_rows := F'_are_rows
    g_are_rows := He.glo_ok X G (c.fact 2 (f := .glo "are_rows") rfl)
    b_are_rows := (F'_are_rows.binds (ps := ["rows", "size"]) fun _ _ _ _ _ _ us hl => match us, hl with | [_, _], _ => rfl)
    f_fulfils := _
    d_fulfils := fd_fulfils
    F_fulfils := F'_fulfils
    g_fulfils := He.glo_ok X G (c.fact 3 (f := .glo "fulfils") rfl)
    b_fulfils := (F'_fulfils.binds (ps := ["row", "clause"]) fun _ _ _ _ _ _ us hl => match us, hl with | [_, _], _ => rfl)
    f_all_rows := _
    d_all_rows := fd_all_rows
    F_all_rows := F'_all_rows
    g_all_rows := He.glo_ok X G (c.fact 4 (f := .glo "all_rows") rfl)
    b_all_rows := (F'_all_rows.binds (ps := ["size"]) fun _ _ _ _ _ _ us hl => match us, hl with | [_], _ => rfl)
    f_all_places := _
    d_all_places := fd_all_places
    F_all_places := F'_all_places
    g_all_places := He.glo_ok X G (c.fact 5 (f := .glo "all_places") rfl)
    b_all_places := (F'_all_places.binds (ps := ["size"]) fun _ _ _ _ _ _ us hl => match us, hl with | [_], _ => rfl)
    f_thinned := _
    d_thinned := fd_thinned
    F_thinned := F'_thinned
    g_thinned := He.glo_ok X G (c.fact 6 (f := .glo "thinned") rfl)
    b_thinned := (F'_thinned.binds (ps := ["relation", "clauses"]) fun _ _ _ _ _ _ us hl => match us, hl with | [_, _], _ => rfl)
    f_every_if := _
    d_every_if := fd_every_if
    F_every_if := F'_every_if
    g_every_if := He.glo_ok X G (c.fact 7 (f := .glo "every_if") rfl)
    b_every_if := (F'_every_if.binds (ps := ["size"]) fun _ _ _ _ _ _ us hl => match us, hl with | [_], _ => rfl)
    f_every_pair := _
    d_every_pair := fd_every_pair
    F_every_pair := F'_every_pair
    g_every_pair := He.glo_ok X G (c.fact 8 (f := .glo "every_pair") rfl)
    b_every_pair := (F'_every_pair.binds (ps := ["size"]) fun _ _ _ _ _ _ us hl => match us, hl with | [_], _ => rfl)
    f_pair_clauses := _
    d_pair_clauses := fd_pair_clauses
    F_pair_clauses := F'_pair_clauses
    g_pair_clauses := He.glo_ok X G (c.fact 9 (f := .glo "pair_clauses") rfl)
    b_pair_clauses := (F'_pair_clauses.binds (ps := ["relation"]) fun _ _ _ _ _ _ us hl => match us, hl with | [_], _ => rfl)
    f__law_draws := _
    d__law_draws := fd__law_draws
    F__law_draws := F'__law_draws
    g__law_draws := He.glo_ok X G (c.fact 10 (f := .glo "_law_draws") rfl)
    b__law_draws := (F'__law_draws.binds (ps := ["script", "many"]) fun _ _ _ _ _ _ us hl => match us, hl with | [_, _], _ => rfl)
    f__law_take := _
    d__law_take := fd__law_take
    F__law_take := F'__law_take
    g__law_take := He.glo_ok X G (c.fact 11 (f := .glo "_law_take") rfl)
    b__law_take := (F'__law_take.binds (ps := ["hand", "many"]) fun _ _ _ _ _ _ us hl => match us, hl with | [_, _], _ => rfl)
    f__law_all_rows := _
    d__law_all_rows := fd__law_all_rows
    F__law_all_rows := F'__law_all_rows
    g__law_all_rows := He.glo_ok X G (c.fact 12 (f := .glo "_law_all_rows") rfl)
    b__law_all_rows := (F'__law_all_rows.binds (ps := ["many"]) fun _ _ _ _ _ _ us hl => match us, hl with | [_], _ => rfl)
    f__law_table := _
    d__law_table := fd__law_table
    F__law_table := F'__law_table
    g__law_table := He.glo_ok X G (c.fact 13 (f := .glo "_law_table") rfl)
    b__law_table := (F'__law_table.binds (ps := ["word"]) fun _ _ _ _ _ _ us hl => match us, hl with | [_], _ => rfl)
    f__law_made := _
    d__law_made := fd__law_made
    F__law_made := F'__law_made
    g__law_made := He.glo_ok X G (c.fact 14 (f := .glo "_law_made") rfl)
    b__law_made := (F'__law_made.binds (ps := ["table", "rows"]) fun _ _ _ _ _ _ us hl => match us, hl with | [_, _], _ => rfl)
    f__law_chosen := _
    d__law_chosen := fd__law_chosen
    F__law_chosen := F'__law_chosen
    g__law_chosen := He.glo_ok X G (c.fact 15 (f := .glo "_law_chosen") rfl)
    b__law_chosen := (F'__law_chosen.binds (ps := ["rows", "table"]) fun _ _ _ _ _ _ us hl => match us, hl with | [_, _], _ => rfl)
    f__law_closed := _
    d__law_closed := fd__law_closed
    F__law_closed := F'__law_closed
    g__law_closed := He.glo_ok X G (c.fact 16 (f := .glo "_law_closed") rfl)
    b__law_closed := (F'__law_closed.binds (ps := ["rows", "table"]) fun _ _ _ _ _ _ us hl => match us, hl with | [_, _], _ => rfl)
    f__law_fulfils := _
    d__law_fulfils := fd__law_fulfils
    F__law_fulfils := F'__law_fulfils
    g__law_fulfils := He.glo_ok X G (c.fact 17 (f := .glo "_law_fulfils") rfl)
    b__law_fulfils := (F'__law_fulfils.binds (ps := ["row", "clause"]) fun _ _ _ _ _ _ us hl => match us, hl with | [_, _], _ => rfl)
    f__law_told := _
    d__law_told := fd__law_told
    F__law_told := F'__law_told
    g__law_told := He.glo_ok X G (c.fact 18 (f := .glo "_law_told") rfl)
    b__law_told := (F'__law_told.binds (ps := ["size", "clauses"]) fun _ _ _ _ _ _ us hl => match us, hl with | [_, _], _ => rfl)
    f__law_any := _
    d__law_any := fd__law_any
    F__law_any := F'__law_any
    g__law_any := He.glo_ok X G (c.fact 19 (f := .glo "_law_any") rfl)
    b__law_any := (F'__law_any.binds (ps := ["hand"]) fun _ _ _ _ _ _ us hl => match us, hl with | [_], _ => rfl)
    f__law_is_number := _
    d__law_is_number := fd__law_is_number
    F__law_is_number := F'__law_is_number
    g__law_is_number := He.glo_ok X G (c.fact 20 (f := .glo "_law_is_number") rfl)
    b__law_is_number := (F'__law_is_number.binds (ps := ["value", "most"]) fun _ _ _ _ _ _ us hl => match us, hl with | [_, _], _ => rfl)
    f__law_are_places := _
    d__law_are_places := fd__law_are_places
    F__law_are_places := F'__law_are_places
    g__law_are_places := He.glo_ok X G (c.fact 21 (f := .glo "_law_are_places") rfl)
    b__law_are_places := (F'__law_are_places.binds (ps := ["size", "value"]) fun _ _ _ _ _ _ us hl => match us, hl with | [_, _], _ => rfl)
    f__law_is_clause := _
    d__law_is_clause := fd__law_is_clause
    F__law_is_clause := F'__law_is_clause
    g__law_is_clause := He.glo_ok X G (c.fact 22 (f := .glo "_law_is_clause") rfl)
    b__law_is_clause := (F'__law_is_clause.binds (ps := ["size", "clause"]) fun _ _ _ _ _ _ us hl => match us, hl with | [_, _], _ => rfl)
    f_law := _
    d_law := fd_law
    F_law := F'_law
    g_law := He.glo_ok X G (c.fact 23 (f := .glo "law") rfl)
    b_law := (F'_law.binds (ps := ["script"]) fun _ _ _ _ _ _ us hl => match us, hl with | [_], _ => rfl)
    n_abs := He.free_ok X G (c.fact 24 (f := .free "abs") rfl)
    n_all := He.free_ok X G (c.fact 25 (f := .free "all") rfl)
    n_any := He.free_ok X G (c.fact 26 (f := .free "any") rfl)
    n_bool := He.free_ok X G (c.fact 27 (f := .free "bool") rfl)
    n_int := He.free_ok X G (c.fact 28 (f := .free "int") rfl)
    n_isinstance := He.free_ok X G (c.fact 29 (f := .free "isinstance") rfl)
    n_len := He.free_ok X G (c.fact 30 (f := .free "len") rfl)
    n_list := He.free_ok X G (c.fact 31 (f := .free "list") rfl)
    n_range := He.free_ok X G (c.fact 32 (f := .free "range") rfl)
    n_repr := He.free_ok X G (c.fact 33 (f := .free "repr") rfl)
    n_sorted := He.free_ok X G (c.fact 34 (f := .free "sorted") rfl)
    n_sum := He.free_ok X G (c.fact 35 (f := .free "sum") rfl)
    n_tuple := He.free_ok X G (c.fact 36 (f := .free "tuple") rfl)
    n_zip := He.free_ok X G (c.fact 37 (f := .free "zip") rfl)
    v_MOST_PLACES := v_MOST_PLACES
    u_MOST_PLACES := u_MOST_PLACES
    g_MOST_PLACES := g_MOST_PLACES
    r_MOST_PLACES := r_MOST_PLACES
    y_MOST_PLACES := y_MOST_PLACES }, rfl⟩
end K35
open PySem PySem.W PySem.Calls PyProof.Rows
theorem PySem.Challenge.cw_cellrealm_k35_pair_clauses_holds : PySem.Challenge.rw_cellrealm_k35_pair_clauses.Holds := by
  w_on; o_law
  refine HandSHeadRun.head_any (r := K35.R) (q := K35.qv) (H := Mir.hookN 4 K35.fa K35.fn K35.ts K35.ex) (ob := Mir.obN 4 K35.fa K35.fn K35.ts K35.ex) (M := 20000) (loose := K35.loose) (d := HandSHeadRun.topDef K35.R.prog 32) (kwd := []) Mir.obN_eq
    (by kernel_rfl) (fun s => by kernel_rfl) K35.run (by kernel_rfl) (by kernel_rfl) (by kernel_rfl) (by rfl) (by first | assumption | decide +kernel) (by decide +kernel) ⟨rfl, rfl, rfl, rfl, rfl, by decide +kernel⟩ ?hw ?hc
  case hw => w_witness2
  case hc =>
    refine Mir.walk_mir (l := PySem.Challenge.rw_cellrealm_k35_pair_clauses) (n := 63) (k := 6) (x := "script") (m := K35.m_law) rfl (by decide) (by kernel_rfl) ⟨rfl, by decide, by decide⟩ ?F K35.law_true
    intro w mg fa h Y G hmg0
    obtain ⟨K, KX, c, e⟩ := Y
    have hmg : mg ("law" : PySem.Str) = some (.ref fa) := by
      have e : (HandSHeadRun.topDef K35.R.prog 32).name = ("law" : PySem.Str) := by kernel_rfl
      rw [← e]
      exact hmg0
    obtain ⟨T, eT⟩ := K35.tx_of KX G c e
    have ea := hmg.symm.trans T.g_law
    cases ea
    exact ⟨K, T.d_law, KX, Mir.bind1 T.F_law fun _ _ _ _ _ _ _ => rfl, fun base _ _ => T.ok_law⟩
