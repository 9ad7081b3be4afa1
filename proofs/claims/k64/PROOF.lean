import PyProof.Rows.All
import Wide.All
import OpenK.AllK
import Wide.FinOn
import HandS.ForMost
import HandS.ForExc
import HandS.TryMany
import HandS.Flow
import HandS.IsInst
import HandS.Deep
import HandS.Conv
import HandS.Ends
import HandS.Text
import PyProof.Rows.InDataRows
import HandS.SortInts
import HandS.Style
import PyProof.Rows.SortShellAny
import PyProof.Rows.StrMeet
import HandS.Rev
import HandS.Iter
import PyProof.SliceStr2
import HandS.RevTup
import PyProof.ListRange
import HandS.Dict
import HandS.DictComp
import KE.SortCalls
import KE.SortKeyed
import KE.DataMinMax
import KE.DatumOrd
import KE.DataCmp
import HandS.More
import HandS.NoneIn
import HandS.SetFor
import HandS.TupSets
import KE.DatumMoreOrd
import PySem.Challenge.RW_everyclue_k64_entries_are_marked
set_option Elab.async false
set_option linter.all false
set_option maxRecDepth 100000
set_option maxHeartbeats 4000000
set_option autoImplicit false
/-! # Ly: defs of the text as plain functions over data -/
namespace Ly
open PySem PySem.Spec L2

/-! ## data, owned things -/
inductive Sh where
  | lst
  | dK (ks : List Key)
  | dT (ks : List (List Key))
  | ins (c : Str) (fs : List Str)
inductive O where
  | fr (d : PyData)
  | nd (s : Sh) (xs : List O)
abbrev Ev := List (Option O)
abbrev MG := Str → Option Value

def kD : Key → PyData
  | .inl i => .int i
  | .inr x => .str x
def ktD (k : List Key) : PyData := .tuple (k.map kD)
def zipK : List Key → List PyData → List (PyData × PyData)
  | k :: ks, d :: ds => (kD k, d) :: zipK ks ds
  | _, _ => []
def zipT : List (List Key) → List PyData → List (PyData × PyData)
  | k :: ks, d :: ds => (ktD k, d) :: zipT ks ds
  | _, _ => []

mutual
/-- an owned thing as data (no instances) -/
def O.fz : O → Option PyData
  | .fr d => some d
  | .nd s xs => match s with
    | .lst => (fzL xs).map .list
    | .dK ks => (fzL xs).map fun ds => .dict (zipK ks ds)
    | .dT ks => (fzL xs).map fun ds => .dict ((.none, .none) :: zipT ks ds)
    | .ins _ _ => none
def fzL : List O → Option (List PyData)
  | [] => some []
  | x :: xs => match x.fz, fzL xs with
    | some d, some ds => some (d :: ds)
    | _, _ => none
end

/-! ## what a value stands for, over a heap that doesn't change -/
/-- a tuple of the module -/
def KTp (K : PySem.W.Frag) (a : Addr) (xs : List V) : Prop := ∃ (o : Obj) (its : Array Value) (n : Nat), K.lookup a = some o ∧ o.cls = .type "tuple" ∧ o.data = .seq its n ∧ its.size ≤ sizeLine ∧ Vals xs its.toList
/-- how it stands as data: marked -/
def cT (ds : List PyData) : PyData := .dict [(.bool true, .list ds)]
mutual
inductive Fz (K : PySem.W.Frag) (F : Hp) : V → PyData → Prop
  | kt {a : Addr} {xs : List V} {ds : List PyData} : KTp K a xs → FzL K F xs ds → Fz K F (.ref a) (cT ds)
  | non : Fz K F .non .none
  | bl (b : Bool) : Fz K F (.bl b) (.bool b)
  | int (i : Int) : Fz K F (.int i) (.int i)
  | str (x : Str) : Fz K F (.str x) (.str x)
  | lst {a : Addr} {xs : List V} {ds : List PyData} : SqL K F a xs → FzL K F xs ds → Fz K F (.ref a) (.list ds)
  | tup {a : Addr} {xs : List V} {ds : List PyData} : F a = some (.tup xs) → FzL K F xs ds → Fz K F (.ref a) (.tuple ds)
  | dK {a : Addr} {kvs : List (Key × V)} {ds : List (PyData × PyData)} : F a = some (.dK kvs) → FzK K F kvs ds → Fz K F (.ref a) (.dict ds)
  | dT {a : Addr} {kvs : List (List Key × V)} {ds : List (PyData × PyData)} : F a = some (.dT kvs) → FzT K F kvs ds → Fz K F (.ref a) (.dict ((.none, .none) :: ds))
inductive FzL (K : PySem.W.Frag) (F : Hp) : List V → List PyData → Prop
  | nil : FzL K F [] []
  | cons {v : V} {vs : List V} {d : PyData} {ds : List PyData} : Fz K F v d → FzL K F vs ds → FzL K F (v :: vs) (d :: ds)
inductive FzK (K : PySem.W.Frag) (F : Hp) : List (Key × V) → List (PyData × PyData) → Prop
  | nil : FzK K F [] []
  | cons {k : Key} {v : V} {vs : List (Key × V)} {d : PyData} {ds : List (PyData × PyData)} : Fz K F v d → FzK K F vs ds → FzK K F ((k, v) :: vs) ((kD k, d) :: ds)
inductive FzT (K : PySem.W.Frag) (F : Hp) : List (List Key × V) → List (PyData × PyData) → Prop
  | nil : FzT K F [] []
  | cons {k : List Key} {v : V} {vs : List (List Key × V)} {d : PyData} {ds : List (PyData × PyData)} : Fz K F v d → FzT K F vs ds → FzT K F ((k, v) :: vs) ((ktD k, d) :: ds)
end

theorem sameT {K : PySem.W.Frag} {H H' : Hp} {a : Addr} {xs : List V} (e : Same H H') (h : SqT K H a xs) : SqT K H' a xs := by
  rcases h with (h | ⟨o, h⟩) | h
  · exact .inl (.inl (e _ _ h))
  · exact .inl (.inr ⟨o, e _ _ h⟩)
  · exact .inr h

section
variable {K : PySem.W.Frag} {F F' : Hp}
mutual
theorem Fz.mono (e : Same F F') : ∀ {v : V} {d : PyData}, Fz K F v d → Fz K F' v d
  | _, _, .kt h t => .kt h (FzL.mono e t)
  | _, _, .non => .non
  | _, _, .bl b => .bl b
  | _, _, .int i => .int i
  | _, _, .str x => .str x
  | _, _, .lst h t => .lst (e.seq h) (FzL.mono e t)
  | _, _, .tup h t => .tup (e _ _ h) (FzL.mono e t)
  | _, _, .dK h t => .dK (e _ _ h) (FzK.mono e t)
  | _, _, .dT h t => .dT (e _ _ h) (FzT.mono e t)
theorem FzL.mono (e : Same F F') : ∀ {vs : List V} {ds : List PyData}, FzL K F vs ds → FzL K F' vs ds
  | _, _, .nil => .nil
  | _, _, .cons h t => .cons (Fz.mono e h) (FzL.mono e t)
theorem FzK.mono (e : Same F F') : ∀ {vs : List (Key × V)} {ds : List (PyData × PyData)}, FzK K F vs ds → FzK K F' vs ds
  | _, _, .nil => .nil
  | _, _, .cons h t => .cons (Fz.mono e h) (FzK.mono e t)
theorem FzT.mono (e : Same F F') : ∀ {vs : List (List Key × V)} {ds : List (PyData × PyData)}, FzT K F vs ds → FzT K F' vs ds
  | _, _, .nil => .nil
  | _, _, .cons h t => .cons (Fz.mono e h) (FzT.mono e t)
end
theorem FzL.length : ∀ {vs : List V} {ds : List PyData}, FzL K F vs ds → vs.length = ds.length
  | _, _, .nil => rfl
  | _, _, .cons _ t => by rw [List.length_cons, List.length_cons, FzL.length t]
theorem FzL.get : ∀ {vs : List V} {ds : List PyData} {i : Nat} {d : PyData}, FzL K F vs ds → ds[i]? = some d → ∃ v, vs[i]? = some v ∧ Fz K F v d
  | _, _, _, _, .nil, e => by simp at e
  | _, _, 0, d, .cons h _, e => by
    simp at e
    subst e
    exact ⟨_, rfl, h⟩
  | _, _, i + 1, d, .cons _ t, e => by
    obtain ⟨v, h1, h2⟩ := FzL.get (i := i) t (by simpa using e)
    exact ⟨v, by simpa using h1, h2⟩
theorem FzL.app : ∀ {vs ws : List V} {ds es : List PyData}, FzL K F vs ds → FzL K F ws es → FzL K F (vs ++ ws) (ds ++ es)
  | _, _, _, _, .nil, s => s
  | _, _, _, _, .cons h t, s => .cons h (FzL.app t s)
theorem FzL.take : ∀ {vs : List V} {ds : List PyData} (n : Nat), FzL K F vs ds → FzL K F (vs.take n) (ds.take n)
  | _, _, 0, _ => .nil
  | _, _, _ + 1, .nil => .nil
  | _, _, n + 1, .cons r t => .cons r (FzL.take n t)
theorem FzL.drop : ∀ {vs : List V} {ds : List PyData} (n : Nat), FzL K F vs ds → FzL K F (vs.drop n) (ds.drop n)
  | _, _, 0, r => r
  | _, _, _ + 1, .nil => .nil
  | _, _, n + 1, .cons _ t => FzL.drop n t
theorem FzL.rev {vs : List V} {ds : List PyData} (h : FzL K F vs ds) : FzL K F vs.reverse ds.reverse := by
  induction vs generalizing ds with
  | nil => cases h; exact .nil
  | cons v vs ih =>
    cases h with
    | cons h t => rw [List.reverse_cons, List.reverse_cons]; exact FzL.app (ih t) (.cons h .nil)
end

/-! ## owned things in the heap: S bounds what may be changed -/
/-- the object of an owned node at a; N: its own addresses -/
def IsHo (mg : MG) (H : Hp) (N : Addr → Prop) (a : Addr) : Sh → List V → Prop
  | .lst, vs => H a = some (.lst vs) ∧ ∀ b, N b ↔ b = a
  | .dK ks, vs => H a = some (.dK (ks.zip vs)) ∧ ks.length = vs.length ∧ ∀ b, N b ↔ b = a
  | .dT ks, vs => H a = some (.dT (ks.zip vs)) ∧ ks.length = vs.length ∧ ∀ b, N b ↔ b = a
  | .ins c fs, vs => ∃ C dx, mg c = some (.ref C) ∧ H a = some (.ins C dx (fs.zip vs)) ∧ fs.length = vs.length ∧ H dx = some (.own a) ∧ ∀ b, N b ↔ (b = a ∨ b = dx)
inductive Rep (K : PySem.W.Frag) (mg : MG) (F H : Hp) : (Addr → Prop) → V → O → Prop
  | fr {S : Addr → Prop} {v : V} {d : PyData} : Fz K F v d → Rep K mg F H S v (.fr d)
  | nd {S N : Addr → Prop} {Sf : Nat → Addr → Prop} {a : Addr} {s : Sh} {vs : List V} {xs : List O} : IsHo mg H N a s vs → (∀ b, N b → S b) → vs.length = xs.length →
      (∀ (j : Nat) (v : V) (o : O), vs[j]? = some v → xs[j]? = some o → Rep K mg F H (Sf j) v o) → (∀ i j b, Sf i b → Sf j b → i = j) → (∀ j b, Sf j b → S b ∧ ¬ N b) → Rep K mg F H S (.ref a) (.nd s xs)

section
variable {K : PySem.W.Frag} {mg : MG} {F F' H H' : Hp} {S S' : Addr → Prop}
theorem Rep.up {v : V} {o : O} (h : Rep K mg F H S v o) (k : ∀ b, S b → S' b) : Rep K mg F H S' v o := by
  cases h with
  | fr h => exact .fr h
  | nd h1 h2 h3 h4 h5 h6 => exact .nd h1 (fun b q => k b (h2 b q)) h3 h4 h5 fun j b q => ⟨k b (h6 j b q).1, (h6 j b q).2⟩
theorem IsHo.keep {N : Addr → Prop} {a : Addr} {s : Sh} {vs : List V} (h : IsHo mg H N a s vs) (k : ∀ b o, N b → H b = some o → H' b = some o) : IsHo mg H' N a s vs := by
  cases s with
  | lst => exact ⟨k _ _ ((h.2 a).mpr rfl) h.1, h.2⟩
  | dK ks => exact ⟨k _ _ ((h.2.2 a).mpr rfl) h.1, h.2⟩
  | dT ks => exact ⟨k _ _ ((h.2.2 a).mpr rfl) h.1, h.2⟩
  | ins c fs =>
    obtain ⟨C, dx, h1, h2, h3, h4, h5⟩ := h
    exact ⟨C, dx, h1, k _ _ ((h5 a).mpr (.inl rfl)) h2, h3, k _ _ ((h5 dx).mpr (.inr rfl)) h4, h5⟩
/-- what is owned stands still where nothing of it is changed -/
theorem Rep.frame {v : V} {o : O} (h : Rep K mg F H S v o) (e : Same F F') (k : ∀ b o, S b → H b = some o → H' b = some o) : Rep K mg F' H' S v o := by
  induction h with
  | fr h => exact .fr (h.mono e)
  | nd h1 h2 h3 h4 h5 h6 ih => exact .nd (h1.keep fun b o q => k b o (h2 b q)) h2 h3 (fun j v o e1 e2 => ih j v o e1 e2 fun b o q => k b o (h6 j b q).1) h5 h6
theorem IsHo.there {N : Addr → Prop} {a : Addr} {s : Sh} {vs : List V} (h : IsHo mg H N a s vs) : N a ∧ ∃ o, H a = some o := by
  cases s with
  | lst => exact ⟨(h.2 a).mpr rfl, _, h.1⟩
  | dK ks => exact ⟨(h.2.2 a).mpr rfl, _, h.1⟩
  | dT ks => exact ⟨(h.2.2 a).mpr rfl, _, h.1⟩
  | ins c fs =>
    obtain ⟨C, dx, h1, h2, h3, h4, h5⟩ := h
    exact ⟨(h5 a).mpr (.inl rfl), _, h2⟩
end

/-! ## the state of a def: its names' data over the heap; G: the ground of its call -/
structure Gd where
  F0 : Hp
  H0 : Hp
  S0 : Addr → Prop
  io : List (Nat × V)
def Gd.S (G : Gd) (a : Addr) : Prop := G.H0 a = none ∨ G.S0 a
/-- the rows of the names -/
structure Rw (K : PySem.W.Frag) (mg : MG) (G : Gd) (F : Hp) (env : Ev) (σ : St) (H : Hp) (Sf : Nat → Addr → Prop) : Prop where
  row : ∀ i o, env[i]? = some (some o) → ∃ v, σ[i]? = some (some v) ∧ Rep K mg F H (Sf i) v o
  dis : ∀ i j a, Sf i a → Sf j a → i = j
  bnd : ∀ i a, Sf i a → F a = none ∧ H a ≠ none ∧ G.S a
structure J0 (K : PySem.W.Frag) (mg : MG) (G : Gd) (F : Hp) (env : Ev) (σ : St) (H : Hp) : Prop where
  len : env.length = σ.length
  ex : ∃ Sf, Rw K mg G F env σ H Sf
  sub : Same F H
  keep : ∀ a o, G.H0 a = some o → ¬ G.S0 a → H a = some o
  f0 : Same G.F0 F
  fs : ∀ a, F a ≠ none → G.F0 a ≠ none ∨ G.S a

theorem same_new {F : Hp} {p : Addr} {o : HO} (h : F p = none) : Same F (upd F p o) := fun b x e => by
  rw [upd_ne (ne_of_none e h)]
  exact e

section
variable {K : PySem.W.Frag} {mg : MG} {G : Gd} {F F' : Hp} {env : Ev} {σ : St} {H H' : Hp}
theorem J0.fr (j : J0 K mg G F env σ H) {i : Nat} {d : PyData} (e : env[i]? = some (some (.fr d))) : ∃ v, σ[i]? = some (some v) ∧ Fz K F v d := by
  obtain ⟨Sf, r⟩ := j.ex
  obtain ⟨v, h1, h2⟩ := r.row i _ e
  cases h2 with
  | fr h => exact ⟨v, h1, h⟩
theorem J0.free (j : J0 K mg G F env σ H) {p : Addr} (h : H p = none) : F p = none ∧ G.S p := by
  refine ⟨j.sub.free h, ?_⟩
  by_cases q : G.S0 p
  · exact .inr q
  · left
    cases e : G.H0 p with
    | none => rfl
    | some o =>
      have z := j.keep p o e q
      rw [h] at z
      cases z
/-- a new object that stays as it is -/
theorem J0.newF (j : J0 K mg G F env σ H) {p : Addr} (h : H p = none) (o : HO) : J0 K mg G (upd F p o) env σ (upd H p o) := by
  obtain ⟨hF, hS⟩ := j.free h
  obtain ⟨Sf, r⟩ := j.ex
  refine ⟨j.len, ⟨Sf, ?_, r.dis, ?_⟩, ?_, ?_, ?_, ?_⟩
  · intro i o' e
    obtain ⟨v, h1, h2⟩ := r.row i o' e
    exact ⟨v, h1, h2.frame (same_new hF) fun b o q z => by rw [upd_ne (ne_of_none z h)]; exact z⟩
  · intro i a q
    obtain ⟨q1, q2, q3⟩ := r.bnd i a q
    have ne : a ≠ p := fun z => q2 (by rw [z]; exact h)
    rw [upd_ne ne, upd_ne ne]
    exact ⟨q1, q2, q3⟩
  · intro a u q
    by_cases z : a = p
    · subst z
      rw [upd_same] at q ⊢
      exact q
    · rw [upd_ne z] at q ⊢
      exact j.sub a u q
  · intro a u q q2
    have z := j.keep a u q q2
    rw [upd_ne (ne_of_none z h)]
    exact z
  · exact fun a u q => same_new hF a u (j.f0 a u q)
  · intro a q
    by_cases z : a = p
    · subst z
      exact .inr hS
    · rw [upd_ne z] at q
      exact j.fs a q
/-- a new owned object, as one more row -/
theorem J0.newO (j : J0 K mg G F env σ H) {p : Addr} (h : H p = none) (ho : HO) {v : V} {o : O} (q : Rep K mg F (upd H p ho) (fun b => b = p) v o) : J0 K mg G F (env ++ [some o]) (σ ++ [some v]) (upd H p ho) := by
  obtain ⟨hF, hS⟩ := j.free h
  obtain ⟨Sf, r⟩ := j.ex
  have npf : ∀ i a, Sf i a → a ≠ p := fun i a q z => (r.bnd i a q).2.1 (by rw [z]; exact h)
  refine ⟨by rw [List.length_append, List.length_append, j.len]; rfl, ⟨fun i b => if i = env.length then b = p else Sf i b, ?_, ?_, ?_⟩, ?_, ?_, j.f0, j.fs⟩
  · intro i o' e
    by_cases hi : i = env.length
    · subst hi
      rw [List.getElem?_append_right (Nat.le_refl _), Nat.sub_self] at e
      have e' : o = o' := by simpa using e
      subst e'
      refine ⟨v, ?_, ?_⟩
      · rw [j.len, List.getElem?_append_right (Nat.le_refl _), Nat.sub_self]
        rfl
      · exact q.up fun b z => by rw [if_pos rfl]; exact z
    · have hlt : i < env.length := by
        have := (List.getElem?_eq_some_iff.mp e).1
        rw [List.length_append, List.length_singleton] at this
        omega
      rw [List.getElem?_append_left hlt] at e
      obtain ⟨v', h1, h2⟩ := r.row i o' e
      refine ⟨v', by rw [List.getElem?_append_left (by rw [← j.len]; exact hlt)]; exact h1, ?_⟩
      refine (h2.frame (Same.refl F) fun b u z z2 => ?_).up fun b z => by rw [if_neg hi]; exact z
      rw [upd_ne (npf i b z)]
      exact z2
  · intro i k a h1 h2
    try dsimp only at h1 h2
    by_cases hi : i = env.length
    · by_cases hk : k = env.length
      · rw [hi, hk]
      · rw [if_pos hi] at h1
        rw [if_neg hk] at h2
        exact absurd h1 (npf k a h2)
    · rw [if_neg hi] at h1
      by_cases hk : k = env.length
      · rw [if_pos hk] at h2
        exact absurd h2 (npf i a h1)
      · rw [if_neg hk] at h2
        exact r.dis i k a h1 h2
  · intro i a h1
    try dsimp only at h1
    by_cases hi : i = env.length
    · rw [if_pos hi] at h1
      subst h1
      exact ⟨hF, (by rw [upd_same]; exact Option.some_ne_none _), hS⟩
    · rw [if_neg hi] at h1
      obtain ⟨q1, q2, q3⟩ := r.bnd i a h1
      rw [upd_ne (npf i a h1)]
      exact ⟨q1, q2, q3⟩
  · intro a u z
    have w := j.sub a u z
    rw [upd_ne (ne_of_none w h)]
    exact w
  · intro a u z z2
    have w := j.keep a u z z2
    rw [upd_ne (ne_of_none w h)]
    exact w
/-- one more row that is data -/
theorem J0.addF (j : J0 K mg G F env σ H) {v : V} {d : PyData} (q : Fz K F v d) : J0 K mg G F (env ++ [some (.fr d)]) (σ ++ [some v]) H := by
  obtain ⟨Sf, r⟩ := j.ex
  refine ⟨by rw [List.length_append, List.length_append, j.len]; rfl, ⟨fun i b => i < env.length ∧ Sf i b, ?_, fun i k a h1 h2 => r.dis i k a h1.2 h2.2, fun i a h => r.bnd i a h.2⟩, j.sub, j.keep, j.f0, j.fs⟩
  intro i o' e
  by_cases hi : i < env.length
  · rw [List.getElem?_append_left hi] at e
    obtain ⟨v', h1, h2⟩ := r.row i o' e
    exact ⟨v', by rw [List.getElem?_append_left (by rw [← j.len]; exact hi)]; exact h1, h2.up fun b z => ⟨hi, z⟩⟩
  · have hi2 : i = env.length := by
      have := (List.getElem?_eq_some_iff.mp e).1
      rw [List.length_append, List.length_singleton] at this
      omega
    subst hi2
    rw [List.getElem?_append_right (Nat.le_refl _), Nat.sub_self] at e
    have e' : O.fr d = o' := by simpa using e
    subst e'
    exact ⟨v, by rw [j.len, List.getElem?_append_right (Nat.le_refl _), Nat.sub_self]; rfl, .fr q⟩
/-- a row taken off the end -/
theorem J0.cut {o : Option O} {v : Option V} (j : J0 K mg G F (env ++ [o]) (σ ++ [v]) H) : J0 K mg G F env σ H := by
  obtain ⟨Sf, r⟩ := j.ex
  have hl : env.length = σ.length := by
    have := j.len
    rw [List.length_append, List.length_append, List.length_singleton, List.length_singleton] at this
    omega
  refine ⟨hl, ⟨Sf, ?_, r.dis, r.bnd⟩, j.sub, j.keep, j.f0, j.fs⟩
  intro i o' e
  have hi := (List.getElem?_eq_some_iff.mp e).1
  obtain ⟨v', h1, h2⟩ := r.row i o' (by rw [List.getElem?_append_left hi]; exact e)
  rw [List.getElem?_append_left (by rw [← hl]; exact hi)] at h1
  exact ⟨v', h1, h2⟩
/-- the last row is stored at a name -/
theorem J0.set {o : O} {v : V} {i : Nat} (j : J0 K mg G F (env ++ [some o]) (σ ++ [some v]) H) : J0 K mg G F (env.set i (some o)) (σ.set i (some v)) H := by
  obtain ⟨Sf, r⟩ := j.ex
  have hl : env.length = σ.length := by
    have := j.len
    rw [List.length_append, List.length_append, List.length_singleton, List.length_singleton] at this
    omega
  obtain ⟨v', h1, h2⟩ := r.row env.length o (by rw [List.getElem?_append_right (Nat.le_refl _), Nat.sub_self]; rfl)
  rw [hl, List.getElem?_append_right (Nat.le_refl _), Nat.sub_self] at h1
  have e' : v = v' := by simpa using h1
  subst e'
  refine ⟨by rw [List.length_set, List.length_set]; exact hl, ⟨fun k b => if k = i then Sf env.length b else (k < env.length ∧ Sf k b), ?_, ?_, ?_⟩, j.sub, j.keep, j.f0, j.fs⟩
  · intro k o' e
    by_cases hk : k = i
    · subst hk
      have hlt : k < env.length := by
        have := (List.getElem?_eq_some_iff.mp e).1
        rw [List.length_set] at this
        exact this
      rw [List.getElem?_set_self hlt] at e
      have e2 : o = o' := by simpa using e
      subst e2
      exact ⟨v, List.getElem?_set_self (by rw [← hl]; exact hlt), h2.up fun b z => by rw [if_pos rfl]; exact z⟩
    · rw [List.getElem?_set_ne (Ne.symm hk)] at e
      have hlt := (List.getElem?_eq_some_iff.mp e).1
      obtain ⟨v2, q1, q2⟩ := r.row k o' (by rw [List.getElem?_append_left hlt]; exact e)
      rw [List.getElem?_append_left (by rw [← hl]; exact hlt)] at q1
      exact ⟨v2, by rw [List.getElem?_set_ne (Ne.symm hk)]; exact q1, q2.up fun b z => by rw [if_neg hk]; exact ⟨hlt, z⟩⟩
  · intro k l a q1 q2
    try dsimp only at q1 q2
    by_cases hk : k = i
    · by_cases hl2 : l = i
      · rw [hk, hl2]
      · rw [if_pos hk] at q1
        rw [if_neg hl2] at q2
        have z := r.dis _ _ a q1 q2.2
        omega
    · rw [if_neg hk] at q1
      by_cases hl2 : l = i
      · rw [if_pos hl2] at q2
        have z := r.dis _ _ a q1.2 q2
        omega
      · rw [if_neg hl2] at q2
        exact r.dis _ _ a q1.2 q2.2
  · intro k a q
    try dsimp only at q
    by_cases hk : k = i
    · rw [if_pos hk] at q
      exact r.bnd _ a q
    · rw [if_neg hk] at q
      exact r.bnd _ a q.2
theorem J0.setF (j : J0 K mg G F env σ H) {v : V} {d : PyData} {i : Nat} (q : Fz K F v d) : J0 K mg G F (env.set i (some (.fr d))) (σ.set i (some v)) H := (j.addF q).set
/-- a name whose value is forgotten -/
theorem J0.drop (j : J0 K mg G F env σ H) {i : Nat} {x : Option V} : J0 K mg G F (env.set i none) (σ.set i x) H := by
  obtain ⟨Sf, r⟩ := j.ex
  refine ⟨by rw [List.length_set, List.length_set]; exact j.len, ⟨Sf, ?_, r.dis, r.bnd⟩, j.sub, j.keep, j.f0, j.fs⟩
  intro k o' e
  by_cases hk : k = i
  · subst hk
    have hlt : k < env.length := by
      have := (List.getElem?_eq_some_iff.mp e).1
      rw [List.length_set] at this
      exact this
    rw [List.getElem?_set_self hlt] at e
    cases e
  · rw [List.getElem?_set_ne (Ne.symm hk)] at e
    obtain ⟨v2, q1, q2⟩ := r.row k o' e
    exact ⟨v2, by rw [List.getElem?_set_ne (Ne.symm hk)]; exact q1, q2⟩
end

/-! ## freezing: what was owned becomes data -/
theorem fzK_of {K : PySem.W.Frag} {F : Hp} : ∀ {ks : List Key} {vs : List V} {ds : List PyData}, FzL K F vs ds → FzK K F (ks.zip vs) (zipK ks ds)
  | [], _, _, _ => by rw [List.zip_nil_left]; exact .nil
  | k :: ks, _, _, .nil => by rw [List.zip_nil_right]; exact .nil
  | k :: ks, _, _, .cons h t => .cons h (fzK_of t)
theorem fzT_of {K : PySem.W.Frag} {F : Hp} : ∀ {ks : List (List Key)} {vs : List V} {ds : List PyData}, FzL K F vs ds → FzT K F (ks.zip vs) (zipT ks ds)
  | [], _, _, _ => by rw [List.zip_nil_left]; exact .nil
  | k :: ks, _, _, .nil => by rw [List.zip_nil_right]; exact .nil
  | k :: ks, _, _, .cons h t => .cons h (fzT_of t)
theorem fzL_get : ∀ {xs : List O} {ds : List PyData}, fzL xs = some ds → xs.length = ds.length ∧ ∀ (j : Nat) (o : O), xs[j]? = some o → ∃ d, ds[j]? = some d ∧ o.fz = some d
  | [], ds, h => by
    rw [fzL] at h
    cases h
    exact ⟨rfl, fun j o e => by simp at e⟩
  | x :: xs, ds, h => by
    rw [fzL] at h
    cases h1 : x.fz with
    | none => rw [h1] at h; cases h
    | some d =>
      cases h2 : fzL xs with
      | none => rw [h1, h2] at h; cases h
      | some ds' =>
        rw [h1, h2] at h
        cases h
        obtain ⟨l, g⟩ := fzL_get h2
        refine ⟨by rw [List.length_cons, List.length_cons, l], fun j o e => ?_⟩
        cases j with
        | zero =>
          simp at e
          subst e
          exact ⟨d, rfl, h1⟩
        | succ j =>
          obtain ⟨d', e1, e2⟩ := g j o (by simpa using e)
          exact ⟨d', by simpa using e1, e2⟩
theorem fzL_build {K : PySem.W.Frag} {F : Hp} : ∀ {vs : List V} {ds : List PyData}, vs.length = ds.length → (∀ (j : Nat) (v : V) (d : PyData), vs[j]? = some v → ds[j]? = some d → Fz K F v d) → FzL K F vs ds
  | [], [], _, _ => .nil
  | [], _ :: _, h, _ => by simp at h
  | _ :: _, [], h, _ => by simp at h
  | v :: vs, d :: ds, h, g => .cons (g 0 v d rfl rfl) (fzL_build (by simpa using h) fun j v d e1 e2 => g (j + 1) v d (by simpa using e1) (by simpa using e2))
/-- F with what S holds of H -/
noncomputable def over (F H : Hp) (S : Addr → Prop) : Hp := fun a => open Classical in if S a then H a else F a
section
variable {K : PySem.W.Frag} {mg : MG} {F H : Hp} {S T : Addr → Prop}
theorem over_in {a : Addr} (h : S a) : over F H S a = H a := by
  unfold over
  rw [if_pos h]
theorem over_out {a : Addr} (h : ¬ S a) : over F H S a = F a := by
  unfold over
  rw [if_neg h]
theorem over_same (hF : ∀ a, S a → F a = none) : Same F (over F H S) := fun a o e => by
  by_cases h : S a
  · rw [hF a h] at e
    cases e
  · rw [over_out h]
    exact e
theorem Rep.freeze {v : V} {o : O} (h : Rep K mg F H T v o) : ∀ {d : PyData}, o.fz = some d → (∀ a, T a → S a) → (∀ a, S a → F a = none) → Fz K (over F H S) v d := by
  induction h with
  | fr h =>
    intro d e _ hF
    rw [O.fz] at e
    cases e
    exact h.mono (over_same hF)
  | @nd T N Sf a s vs xs h1 h2 h3 h4 h5 h6 ih =>
    intro d e hT hF
    have kids : ∀ ds, fzL xs = some ds → FzL K (over F H S) vs ds := fun ds hd => by
      obtain ⟨l, g⟩ := fzL_get hd
      refine fzL_build (h3.trans l) fun j v d e1 e2 => ?_
      have hj : j < xs.length := by
        have := (List.getElem?_eq_some_iff.mp e1).1
        omega
      obtain ⟨d', e3, e4⟩ := g j _ (List.getElem?_eq_getElem hj)
      rw [e2] at e3
      cases e3
      exact ih j v _ e1 (List.getElem?_eq_getElem hj) e4 (fun a q => hT a (h6 j a q).1) hF
    cases s with
    | lst =>
      rw [O.fz] at e
      obtain ⟨p1, p2⟩ := h1
      cases hd : fzL xs with
      | none => rw [hd] at e; cases e
      | some ds =>
        rw [hd] at e
        cases e
        exact .lst (.inl (.inl (by rw [over_in (hT _ (h2 _ ((p2 a).mpr rfl)))]; exact p1))) (kids ds hd)
    | dK ks =>
      rw [O.fz] at e
      obtain ⟨p1, _, p2⟩ := h1
      cases hd : fzL xs with
      | none => rw [hd] at e; cases e
      | some ds =>
        rw [hd] at e
        cases e
        exact .dK (by rw [over_in (hT _ (h2 _ ((p2 a).mpr rfl)))]; exact p1) (fzK_of (kids ds hd))
    | dT ks =>
      rw [O.fz] at e
      obtain ⟨p1, _, p2⟩ := h1
      cases hd : fzL xs with
      | none => rw [hd] at e; cases e
      | some ds =>
        rw [hd] at e
        cases e
        exact .dT (by rw [over_in (hT _ (h2 _ ((p2 a).mpr rfl)))]; exact p1) (fzT_of (kids ds hd))
    | ins c fs =>
      rw [O.fz] at e
      cases e
end
section
variable {K : PySem.W.Frag} {mg : MG} {G : Gd} {F : Hp} {env : Ev} {σ : St} {H : Hp}
/-- the name i is data from now on -/
theorem J0.freeze (j : J0 K mg G F env σ H) {i : Nat} {o : O} {d : PyData} (e : env[i]? = some (some o)) (hd : o.fz = some d) :
    ∃ F' v, Same F F' ∧ σ[i]? = some (some v) ∧ Fz K F' v d ∧ J0 K mg G F' (env.set i (some (.fr d))) σ H := by
  obtain ⟨Sf, r⟩ := j.ex
  obtain ⟨v, h1, h2⟩ := r.row i o e
  have hF : ∀ a, Sf i a → F a = none := fun a q => (r.bnd i a q).1
  have hz := h2.freeze (S := Sf i) hd (fun _ q => q) hF
  have hs := over_same (H := H) hF
  have hi := (List.getElem?_eq_some_iff.mp e).1
  refine ⟨over F H (Sf i), v, hs, h1, hz, ?_⟩
  refine ⟨by rw [List.length_set]; exact j.len, ⟨fun k b => k ≠ i ∧ Sf k b, ?_, fun a b c q1 q2 => r.dis a b c q1.2 q2.2, ?_⟩, ?_, j.keep, fun a u q => hs a u (j.f0 a u q), ?_⟩
  · intro k o' e'
    by_cases hk : k = i
    · subst hk
      rw [List.getElem?_set_self hi] at e'
      have e2 : O.fr d = o' := by simpa using e'
      subst e2
      exact ⟨v, h1, .fr hz⟩
    · rw [List.getElem?_set_ne (Ne.symm hk)] at e'
      obtain ⟨v2, q1, q2⟩ := r.row k o' e'
      exact ⟨v2, q1, (q2.frame hs fun b u _ z => z).up fun b z => ⟨hk, z⟩⟩
  · intro k a q
    obtain ⟨q1, q2, q3⟩ := r.bnd k a q.2
    refine ⟨?_, q2, q3⟩
    rw [over_out fun z => q.1 (r.dis _ _ a q.2 z)]
    exact q1
  · intro a u q
    by_cases z : Sf i a
    · rw [over_in z] at q
      exact q
    · rw [over_out z] at q
      exact j.sub a u q
  · intro a q
    by_cases z : Sf i a
    · exact .inr (r.bnd i a z).2.2
    · rw [over_out z] at q
      exact j.fs a q
/-- the last row becomes data -/
theorem J0.freezeL {o : O} {v : V} {d : PyData} (j : J0 K mg G F (env ++ [some o]) (σ ++ [some v]) H) (hd : o.fz = some d) : ∃ F', Same F F' ∧ Fz K F' v d ∧ J0 K mg G F' env σ H := by
  have hl : env.length = σ.length := by
    have := j.len
    rw [List.length_append, List.length_append, List.length_singleton, List.length_singleton] at this
    omega
  obtain ⟨F', v', h1, h2, h3, h4⟩ := j.freeze (i := env.length) (by rw [List.getElem?_append_right (Nat.le_refl _), Nat.sub_self]; rfl) hd
  rw [hl, List.getElem?_append_right (Nat.le_refl _), Nat.sub_self] at h2
  have e : v = v' := by simpa using h2
  subst e
  refine ⟨F', h1, h3, ?_⟩
  rw [List.set_append_right _ _ (Nat.le_refl _), Nat.sub_self] at h4
  exact J0.cut (o := some (.fr d)) h4
/-- the object of an owned name is changed -/
theorem J0.put (j : J0 K mg G F env σ H) {i : Nat} {o o' : O} {v : V} {a : Addr} {ho : HO} (e : env[i]? = some (some o)) (hv : σ[i]? = some (some v))
    (h : ∀ S : Addr → Prop, Rep K mg F H S v o → S a ∧ Rep K mg F (upd H a ho) S v o') : J0 K mg G F (env.set i (some o')) σ (upd H a ho) := by
  obtain ⟨Sf, r⟩ := j.ex
  obtain ⟨v1, h1, h2⟩ := r.row i o e
  rw [hv] at h1
  cases h1
  obtain ⟨sa, h3⟩ := h (Sf i) h2
  have hi := (List.getElem?_eq_some_iff.mp e).1
  obtain ⟨aF, aH, aS⟩ := r.bnd i a sa
  refine ⟨by rw [List.length_set]; exact j.len, ⟨Sf, ?_, r.dis, ?_⟩, ?_, ?_, j.f0, j.fs⟩
  · intro k o2 e2
    by_cases hk : k = i
    · subst hk
      rw [List.getElem?_set_self hi] at e2
      have e3 : o' = o2 := by simpa using e2
      subst e3
      exact ⟨v, hv, h3⟩
    · rw [List.getElem?_set_ne (Ne.symm hk)] at e2
      obtain ⟨v2, q1, q2⟩ := r.row k o2 e2
      refine ⟨v2, q1, q2.frame (Same.refl F) fun b u z w => ?_⟩
      have ne : b ≠ a := fun y => hk (r.dis _ _ a (by rw [← y]; exact z) sa)
      rw [upd_ne ne]
      exact w
  · intro k b q
    obtain ⟨q1, q2, q3⟩ := r.bnd k b q
    refine ⟨q1, ?_, q3⟩
    by_cases z : b = a
    · subst z
      rw [upd_same]
      exact fun y => nomatch y
    · rw [upd_ne z]
      exact q2
  · intro b u q
    have ne : b ≠ a := fun z => by rw [z, aF] at q; cases q
    rw [upd_ne ne]
    exact j.sub b u q
  · intro b u q q2
    have ne : b ≠ a := fun z => by
      rcases aS with w | w
      · rw [z, w] at q; cases q
      · exact q2 (by rw [z]; exact w)
    rw [upd_ne ne]
    exact j.keep b u q q2
end
/-- .. and the parameters whose objects the caller wants back -/
structure J (K : PySem.W.Frag) (mg : MG) (G : Gd) (F : Hp) (env : Ev) (σ : St) (H : Hp) : Prop where
  j0 : J0 K mg G F env σ H
  io : ∀ p ∈ G.io, σ[p.1]? = some (some p.2)
section
variable {K : PySem.W.Frag} {mg : MG} {G : Gd} {F F' : Hp} {env : Ev} {σ : St} {H H' : Hp}
theorem J.fr (j : J K mg G F env σ H) {i : Nat} {d : PyData} (e : env[i]? = some (some (.fr d))) : ∃ v, σ[i]? = some (some v) ∧ Fz K F v d := j.j0.fr e
theorem J.row (j : J K mg G F env σ H) {i : Nat} {o : O} (e : env[i]? = some (some o)) : ∃ (S : Addr → Prop) (v : V), σ[i]? = some (some v) ∧ Rep K mg F H S v o ∧ (∀ a, S a → F a = none ∧ H a ≠ none) :=
  let ⟨Sf, r⟩ := j.j0.ex
  let ⟨v, h1, h2⟩ := r.row i o e
  ⟨Sf i, v, h1, h2, fun a q => ⟨(r.bnd i a q).1, (r.bnd i a q).2.1⟩⟩
theorem J.free (j : J K mg G F env σ H) {p : Addr} (h : H p = none) : F p = none := (j.j0.free h).1
theorem J.sub (j : J K mg G F env σ H) : Same F H := j.j0.sub
theorem J.newF (j : J K mg G F env σ H) {p : Addr} (h : H p = none) (o : HO) : J K mg G (upd F p o) env σ (upd H p o) := ⟨j.j0.newF h o, j.io⟩
theorem io_set {i : Nat} {x : Option V} (h : ∀ p ∈ G.io, σ[p.1]? = some (some p.2)) (hi : i ∉ G.io.map (·.1)) : ∀ p ∈ G.io, (σ.set i x)[p.1]? = some (some p.2) := fun p hp => by
  have ne : i ≠ p.1 := fun z => hi (by rw [z]; exact List.mem_map_of_mem hp)
  rw [List.getElem?_set_ne ne]
  exact h p hp
theorem J.setF (j : J K mg G F env σ H) {v : V} {d : PyData} {i : Nat} (q : Fz K F v d) (hi : i ∉ G.io.map (·.1)) : J K mg G F (env.set i (some (.fr d))) (σ.set i (some v)) H := ⟨j.j0.setF q, io_set j.io hi⟩
theorem J.drop (j : J K mg G F env σ H) {i : Nat} {x : Option V} (hi : i ∉ G.io.map (·.1)) : J K mg G F (env.set i none) (σ.set i x) H := ⟨j.j0.drop, io_set j.io hi⟩
theorem J.newO (j : J K mg G F env σ H) {p : Addr} (h : H p = none) (ho : HO) {v : V} {o : O} {i : Nat} (q : Rep K mg F (upd H p ho) (fun b => b = p) v o) (hi : i ∉ G.io.map (·.1)) :
    J K mg G F (env.set i (some o)) (σ.set i (some v)) (upd H p ho) := ⟨(j.j0.newO h ho q).set, io_set j.io hi⟩
theorem J.freeze (j : J K mg G F env σ H) {i : Nat} {o : O} {d : PyData} (e : env[i]? = some (some o)) (hd : o.fz = some d) :
    ∃ F' v, Same F F' ∧ σ[i]? = some (some v) ∧ Fz K F' v d ∧ J K mg G F' (env.set i (some (.fr d))) σ H :=
  let ⟨F', v, a, b, c, d⟩ := j.j0.freeze e hd
  ⟨F', v, a, b, c, d, j.io⟩
theorem J.put (j : J K mg G F env σ H) {i : Nat} {o o' : O} {v : V} {a : Addr} {ho : HO} (e : env[i]? = some (some o)) (hv : σ[i]? = some (some v))
    (h : ∀ S : Addr → Prop, Rep K mg F H S v o → S a ∧ Rep K mg F (upd H a ho) S v o') : J K mg G F (env.set i (some o')) σ (upd H a ho) := ⟨j.j0.put e hv h, j.io⟩
end
end Ly

set_option Elab.async false
set_option linter.all false
set_option maxRecDepth 100000
set_option maxHeartbeats 4000000
set_option autoImplicit false
namespace Ly
open PySem PySem.Spec L2

/-! ## results -/
inductive Res (α : Type) where
  | ok (a : α) (e : Ev)
  | exc (c : Str) (e : Ev)
  | no
def Res.bind {α β : Type} (r : Res α) (k : α → Ev → Res β) : Res β := match r with
  | .ok a e => k a e
  | .exc c e => .exc c e
  | .no => .no
def lift {α : Type} (o : Option α) (e : Ev) : Res α := match o with
  | some a => .ok a e
  | none => .no
abbrev EM := Ev → Res PyData
abbrev TM := Ev → Res Bool
abbrev LM := Ev → Res (List PyData)
abbrev Item := Sum PyData Nat
abbrev AM := Ev → Res (List Item)
abbrev OM := Ev → Res (Option Int)

/-- behind an expression -/
def PostR (X : Cx) (W : WX) (G : Gd) (F : Hp) (σ : St) {α : Type} (P : α → Hp → Hp → Prop) : Res α → Prop
  | .ok a e => ∀ F' H', Same F F' → J X.K X.mg G F' e σ H' → P a F' H'
  | .exc c e => ∀ F' H' C, X.mg c = some (.ref C) → Same F F' → J X.K X.mg G F' e σ H' → W (.ref C) none σ H'
  | .no => False
section
variable {X : Cx} {W : WX} {G : Gd} {F F' : Hp} {σ : St} {α β : Type} {P P' : α → Hp → Hp → Prop} {P2 : β → Hp → Hp → Prop}
theorem PostR.imp {r : Res α} (h : PostR X W G F σ P r) (k : ∀ a F' H', Same F F' → P a F' H' → P' a F' H') : PostR X W G F σ P' r := by
  cases r with
  | ok a e => exact fun F' H' s j => k a F' H' s (h F' H' s j)
  | exc c e => exact h
  | no => exact h
theorem PostR.mono {r : Res α} (h : PostR X W G F σ P r) (s : Same F F') : PostR X W G F' σ P r := by
  cases r with
  | ok a e => exact fun F2 H2 s2 j => h F2 H2 (s.trans s2) j
  | exc c e => exact fun F2 H2 C hc s2 j => h F2 H2 C hc (s.trans s2) j
  | no => exact h
theorem PostR.bind {r : Res α} {k : α → Ev → Res β} (h : PostR X W G F σ P2 (r.bind k)) :
    PostR X W G F σ (fun a F' H' => ∃ e', J X.K X.mg G F' e' σ H' ∧ PostR X W G F' σ P2 (k a e')) r := by
  cases r with
  | ok a e => exact fun F' H' s j => ⟨e, j, PostR.mono h s⟩
  | exc c e => exact h
  | no => exact h
end

/-! ## a new object, or several, that stay -/
inductive Grow : Hp → Hp → Hp → Hp → Prop
  | refl {F H : Hp} : Grow F H F H
  | step {F H F1 H1 : Hp} {p : Addr} {o : HO} : Grow F H F1 H1 → H1 p = none → Grow F H (upd F1 p o) (upd H1 p o)
section
variable {K : PySem.W.Frag} {mg : MG} {G : Gd} {F H F1 H1 : Hp} {env : Ev} {σ : St}
theorem J.grow (j : J K mg G F env σ H) (g : Grow F H F1 H1) : Same F F1 ∧ J K mg G F1 env σ H1 := by
  induction g with
  | refl => exact ⟨Same.refl F, j⟩
  | step g hp ih =>
    obtain ⟨s, j1⟩ := ih
    exact ⟨s.trans (same_new (j1.free hp)), j1.newF hp _⟩
theorem Grow.one {p : Addr} {o : HO} (h : H p = none) : Grow F H (upd F p o) (upd H p o) := .step .refl h
end

/-! ## readings by plain functions -/
def canE (X : Cx) (W : WX) (f : EM) : TE := fun σ H Q => ∃ G F env, J X.K X.mg G F env σ H ∧ PostR X W G F σ (fun d F' H' => ∀ v, Fz X.K F' v d → Q v H') (f env)
def canT (X : Cx) (W : WX) (f : TM) : TT := fun σ H Q => ∃ G F env, J X.K X.mg G F env σ H ∧ PostR X W G F σ (fun b _ H' => Q b H') (f env)
def canL (X : Cx) (W : WX) (f : LM) : TA := fun σ H Q => ∃ G F env, J X.K X.mg G F env σ H ∧ PostR X W G F σ (fun ds F' H' => ∀ vs, FzL X.K F' vs ds → Q vs H') (f env)
def canO (X : Cx) (W : WX) (f : OM) : TO := fun σ H Q => ∃ G F env, J X.K X.mg G F env σ H ∧ PostR X W G F σ (fun o _ H' => Q o H') (f env)
inductive Itms (K : PySem.W.Frag) (F : Hp) (σ : St) : List V → List Item → Prop
  | nil : Itms K F σ [] []
  | inl {v : V} {vs : List V} {d : PyData} {is : List Item} : Fz K F v d → Itms K F σ vs is → Itms K F σ (v :: vs) (.inl d :: is)
  | inr {v : V} {vs : List V} {i : Nat} {is : List Item} : σ[i]? = some (some v) → Itms K F σ vs is → Itms K F σ (v :: vs) (.inr i :: is)
def canA (X : Cx) (W : WX) (f : AM) : TA := fun σ H Q => ∃ G F env, J X.K X.mg G F env σ H ∧ PostR X W G F σ (fun is F' H' => ∀ vs, Itms X.K F' σ vs is → Q vs H') (f env)
def DE (X : Cx) (W : WX) (e : Expr) (f : EM) : Prop := PE X e (canE X W f)
def DT (X : Cx) (W : WX) (e : Expr) (f : TM) : Prop := PT X e (canT X W f)
def DW (X : Cx) (W : WX) (e : Expr) (f : TM) : Prop := PW X e (canT X W f)
def DL (X : Cx) (W : WX) (es : List Expr) (f : LM) : Prop := PA X es (canL X W f)
def DA (X : Cx) (W : WX) (es : List Expr) (f : AM) : Prop := PA X es (canA X W f)
def DO (X : Cx) (W : WX) (e : Option Expr) (f : OM) : Prop := PO X e (canO X W f)

theorem weakE {X : Cx} {e : Expr} {t t' : TE} (h : PE X e t) (k : ∀ σ H Q, t' σ H Q → t σ H Q) : PE X e t' := ⟨fun pins s σ H Q I q => h.run pins s σ H Q I (k σ H Q q)⟩
theorem weakT {X : Cx} {e : Expr} {t t' : TT} (h : PT X e t) (k : ∀ σ H Q, t' σ H Q → t σ H Q) : PT X e t' := ⟨fun pins s σ H Q I q => h.run pins s σ H Q I (k σ H Q q)⟩
theorem weakW {X : Cx} {e : Expr} {t t' : TT} (h : PW X e t) (k : ∀ σ H Q, t' σ H Q → t σ H Q) : PW X e t' := ⟨fun wh pins s σ H Q I q => h.run wh pins s σ H Q I (k σ H Q q)⟩
theorem weakA {X : Cx} {es : List Expr} {t t' : TA} (h : PA X es t) (k : ∀ σ H Q, t' σ H Q → t σ H Q) : PA X es t' := ⟨fun pos pins s σ H Q I q => h.run pos pins s σ H Q I (k σ H Q q)⟩
theorem weakO {X : Cx} {e : Option Expr} {t t' : TO} (h : PO X e t) (k : ∀ σ H Q, t' σ H Q → t σ H Q) : PO X e t' := ⟨fun pins s σ H Q I q => h.run pins s σ H Q I (k σ H Q q)⟩

/-! ## operations by values -/
def Snd1 (K : PySem.W.Frag) (r : V → Hp → VK → Prop) (g : PyData → Option PyData) : Prop :=
  ∀ F H x a c Q, Same F H → Fz K F x a → g a = some c → (∀ v F' H', Grow F H F' H' → Fz K F' v c → Q v H') → r x H Q
def Snd2 (K : PySem.W.Frag) (r : R2) (g : PyData → PyData → Option PyData) : Prop :=
  ∀ F H x y a b c Q, Same F H → Fz K F x a → Fz K F y b → g a b = some c → (∀ v F' H', Grow F H F' H' → Fz K F' v c → Q v H') → r x y H Q
def SndL (K : PySem.W.Frag) (r : List V → Hp → VK → Prop) (g : List PyData → Option PyData) : Prop :=
  ∀ F H xs as c Q, Same F H → FzL K F xs as → g as = some c → (∀ v F' H', Grow F H F' H' → Fz K F' v c → Q v H') → r xs H Q
def SndM (K : PySem.W.Frag) (r : V → List V → Hp → VK → Prop) (g : PyData → List PyData → Option PyData) : Prop :=
  ∀ F H x a xs as c Q, Same F H → Fz K F x a → FzL K F xs as → g a as = some c → (∀ v F' H', Grow F H F' H' → Fz K F' v c → Q v H') → r x xs H Q
def SndS (K : PySem.W.Frag) (r : V → Option Int → Option Int → Hp → VK → Prop) (g : PyData → Option Int → Option Int → Option PyData) : Prop :=
  ∀ F H x a lo hi c Q, Same F H → Fz K F x a → g a lo hi = some c → (∀ v F' H', Grow F H F' H' → Fz K F' v c → Q v H') → r x lo hi H Q

def e1 (g : PyData → Option PyData) (a : EM) : EM := fun e => (a e).bind fun x e1 => lift (g x) e1
def e2 (g : PyData → PyData → Option PyData) (a b : EM) : EM := fun e => (a e).bind fun x e1 => (b e1).bind fun y e2 => lift (g x y) e2
def eL (g : List PyData → Option PyData) (l : LM) : EM := fun e => (l e).bind fun xs e1 => lift (g xs) e1
def eM (ty : PyData → Bool) (g : PyData → List PyData → Option PyData) (a : EM) (l : LM) : EM := fun e => (a e).bind fun x e1 => if ty x then (l e1).bind fun xs e2 => lift (g x xs) e2 else .no
def eS (g : PyData → Option Int → Option Int → Option PyData) (a : EM) (lo hi : OM) : EM := fun e => (a e).bind fun x e1 => (lo e1).bind fun l e2 => (hi e2).bind fun h e3 => lift (g x l h) e3

section
variable {X : Cx} {W : WX} {G : Gd} {F : Hp} {σ : St}
/-- the last step of an operation -/
theorem lift_end {env : Ev} {H : Hp} {o : Option PyData} {Q : VK} {R : Prop} (j : J X.K X.mg G F env σ H) (p : PostR X W G F σ (fun d F' H' => ∀ v, Fz X.K F' v d → Q v H') (lift o env))
    (k : ∀ c, o = some c → (∀ v F' H', Grow F H F' H' → Fz X.K F' v c → Q v H') → R) : R := by
  cases o with
  | none => exact p.elim
  | some c => exact k c rfl fun v F' H' g f => p F' H' (j.grow g).1 (j.grow g).2 v f
theorem can1 {r : V → Hp → VK → Prop} {g : PyData → Option PyData} {f : EM} (hs : Snd1 X.K r g) (σ : St) (H : Hp) (Q : VK) (h : canE X W (e1 g f) σ H Q) : tUn r (canE X W f) σ H Q := by
  obtain ⟨G, F, env, j, p⟩ := h
  refine ⟨G, F, env, j, p.bind.imp fun a F1 H1 s1 ⟨e1, j1, p2⟩ v fv => ?_⟩
  exact lift_end j1 p2 fun c hg q => hs F1 H1 v a c Q j1.sub fv hg q
theorem can2 {r : R2} {g : PyData → PyData → Option PyData} {f1 f2 : EM} (hs : Snd2 X.K r g) (σ : St) (H : Hp) (Q : VK) (h : canE X W (e2 g f1 f2) σ H Q) : tOp r (canE X W f1) (canE X W f2) σ H Q := by
  obtain ⟨G, F, env, j, p⟩ := h
  refine ⟨G, F, env, j, p.bind.imp fun a F1 H1 s1 ⟨e1, j1, p2⟩ v fv => ?_⟩
  refine ⟨G, F1, e1, j1, p2.bind.imp fun b F2 H2 s2 ⟨e2, j2, p3⟩ w fw => ?_⟩
  exact lift_end j2 p3 fun c hg q => hs F2 H2 v w a b c Q j2.sub (fv.mono s2) fw hg q
theorem canCB {r : List V → Hp → VK → Prop} {g : List PyData → Option PyData} {l : LM} (hs : SndL X.K r g) (σ : St) (H : Hp) (Q : VK) (h : canE X W (eL g l) σ H Q) : tCB r (canL X W l) σ H Q := by
  obtain ⟨G, F, env, j, p⟩ := h
  refine ⟨G, F, env, j, p.bind.imp fun a F1 H1 s1 ⟨e1, j1, p2⟩ v fv => ?_⟩
  exact lift_end j1 p2 fun c hg q => hs F1 H1 v a c Q j1.sub fv hg q
theorem canSl {r : V → Option Int → Option Int → Hp → VK → Prop} {g : PyData → Option Int → Option Int → Option PyData} {f : EM} {lo hi : OM} (hs : SndS X.K r g) (σ : St) (H : Hp) (Q : VK) (h : canE X W (eS g f lo hi) σ H Q) :
    tSl r (canE X W f) (canO X W lo) (canO X W hi) σ H Q := by
  obtain ⟨G, F, env, j, p⟩ := h
  refine ⟨G, F, env, j, p.bind.imp fun a F1 H1 s1 ⟨e1, j1, p2⟩ v fv => ?_⟩
  refine ⟨G, F1, e1, j1, p2.bind.imp fun b F2 H2 s2 ⟨e2, j2, p3⟩ => ?_⟩
  refine ⟨G, F2, e2, j2, p3.bind.imp fun b3 F3 H3 s3 ⟨e3, j3, p4⟩ => ?_⟩
  exact lift_end j3 p4 fun c hg q => hs F3 H3 v a b b3 c Q j3.sub (fv.mono (s2.trans s3)) hg q
theorem canBM {r : V → List V → Hp → VK → Prop} {g : PyData → List PyData → Option PyData} {T : String} {ty : PyData → Bool} {f : EM} {l : LM} (hs : SndM X.K r g) (ht : ∀ F H v a, Same F H → Fz X.K F v a → ty a = true → tyV X.K T v H) (σ : St) (H : Hp) (Q : VK)
    (h : canE X W (eM ty g f l) σ H Q) : tBM X.K T r (canE X W f) (canL X W l) σ H Q := by
  obtain ⟨G, F, env, j, p⟩ := h
  refine ⟨G, F, env, j, p.bind.imp fun a F1 H1 s1 ⟨e1, j1, p2⟩ v fv => ?_⟩
  cases c : ty a with
  | false =>
    simp only [c] at p2
    exact p2.elim
  | true =>
    simp only [c] at p2
    refine ⟨ht F1 H1 v a j1.sub fv c, G, F1, e1, j1, PostR.imp (PostR.bind p2) fun b F2 H2 s2 ⟨e2, j2, p3⟩ w fw => ?_⟩
    exact lift_end j2 p3 fun c hg q => hs F2 H2 v a w b c Q j2.sub (fv.mono s2) fw hg q
theorem canBM0 {r : V → List V → Hp → VK → Prop} {g : PyData → List PyData → Option PyData} {T : String} {ty : PyData → Bool} {f : EM} (hs : SndM X.K r g) (ht : ∀ F H v a, Same F H → Fz X.K F v a → ty a = true → tyV X.K T v H) (σ : St) (H : Hp) (Q : VK)
    (h : canE X W (eM ty g f fun e => .ok [] e) σ H Q) : tBM0 X.K T r (canE X W f) σ H Q := by
  obtain ⟨G, F, env, j, p⟩ := h
  refine ⟨G, F, env, j, p.bind.imp fun a F1 H1 s1 ⟨e1, j1, p2⟩ v fv => ?_⟩
  cases c : ty a with
  | false =>
    simp only [c] at p2
    exact p2.elim
  | true =>
    simp only [c] at p2
    refine ⟨ht F1 H1 v a j1.sub fv c, ?_⟩
    exact lift_end (W := W) j1 p2 fun c hg q => hs F1 H1 v a [] [] c Q j1.sub fv .nil hg q
end

/-! ## names, constants -/
def eV (i : Nat) : EM := fun e => match e[i]? with
  | some (some (.fr d)) => .ok d e
  | _ => .no
/-- an owned name read as data: it is data from then on -/
def eVF (i : Nat) : EM := fun e => match e[i]? with
  | some (some o) => (match o.fz with
    | some d => .ok d (e.set i (some (.fr d)))
    | none => .no)
  | _ => .no
def eC (d : PyData) : EM := fun e => .ok d e
section
variable {X : Cx} {W : WX} {pos : Pos}
theorem canV {i : Nat} (σ : St) (H : Hp) (Q : VK) (h : canE X W (eV i) σ H Q) : tVar i σ H Q := by
  obtain ⟨G, F, env, j, p⟩ := h
  unfold eV at p
  split at p
  · rename_i d e
    obtain ⟨v, h1, h2⟩ := j.fr e
    exact ⟨v, h1, p F H (Same.refl F) j v h2⟩
  · exact p.elim
theorem canVF {i : Nat} (σ : St) (H : Hp) (Q : VK) (h : canE X W (eVF i) σ H Q) : tVar i σ H Q := by
  obtain ⟨G, F, env, j, p⟩ := h
  unfold eVF at p
  split at p
  · rename_i o e
    split at p
    · rename_i d hd
      obtain ⟨F', v, h1, h2, h3, h4⟩ := j.freeze e hd
      exact ⟨v, h2, p F' H h1 h4 v h3⟩
    · exact p.elim
  · exact p.elim
theorem dv (i : Nat) {x : Str} {pos : Pos} (hN : X.N[i]? = some x := by rfl) (hv : Vis X.env.scope x := by first | exact Or.inl rfl | exact Or.inr (Or.inl rfl) | exact Or.inr (Or.inr rfl)) (hd : (x == ("__debug__" : Str)) = false := by decide)
    (hcd : (x == ("__classdict__" : Str)) = false := by decide) : DE X W (.Name x pos) (eV i) := weakE (pe_var hN hv hd hcd) canV
theorem dvf (i : Nat) {x : Str} {pos : Pos} (hN : X.N[i]? = some x := by rfl) (hv : Vis X.env.scope x := by first | exact Or.inl rfl | exact Or.inr (Or.inl rfl) | exact Or.inr (Or.inr rfl)) (hd : (x == ("__debug__" : Str)) = false := by decide)
    (hcd : (x == ("__classdict__" : Str)) = false := by decide) : DE X W (.Name x pos) (eVF i) := weakE (pe_var hN hv hd hcd) canVF
theorem canC {d : PyData} {v : V} (k : ∀ F, Fz X.K F v d) (σ : St) (H : Hp) (Q : VK) (h : canE X W (eC d) σ H Q) : tC v σ H Q := by
  obtain ⟨G, F, env, j, p⟩ := h
  exact p F H (Same.refl F) j v (k F)
theorem dint {i : Int} {j pos} : DE X W (.Constant (.int i) j pos) (eC (.int i)) := weakE pe_int (canC fun _ => .int i)
theorem dbl {b : Bool} {j pos} : DE X W (.Constant (.bool b) j pos) (eC (.bool b)) := weakE pe_bl (canC fun _ => .bl b)
theorem dnon {j pos} : DE X W (.Constant .none j pos) (eC .none) := weakE pe_non (canC fun _ => .non)
theorem dstr {x : Str} {j pos} : DE X W (.Constant (.str x) j pos) (eC (.str x)) := weakE pe_str (canC fun _ => .str x)
theorem dglob {x : Str} {v : V} {u : Value} {d : PyData} (hm : X.mg x = some u) (r : RelV v u) (k : ∀ F, Fz X.K F v d) (hg : Gl X x := by rfl) (hd : (x == ("__debug__" : Str)) = false := by decide) : DE X W (.Name x pos) (eC d) := weakE (pe_glob hg hm r hd) (canC k)
end

/-! ## operators, subscripts, calls of built-ins -/
section
variable {X : Cx} {W : WX} {a b : Expr} {f1 f2 : EM} {pos : Pos}
theorem d_op {op : Operator} {r : R2} {g : PyData → PyData → Option PyData} (ho : OpR X (binaryOp op) r) (hs : Snd2 X.K r g) (ha : DE X W a f1) (hb : DE X W b f2) : DE X W (.BinOp a op b pos) (e2 g f1 f2) := weakE (pe_op ho ha hb) (can2 hs)
theorem d_un {op : UnaryOp} {r : V → Hp → VK → Prop} {g : PyData → Option PyData} (ho : UnR X (unaryOp op) r) (hs : Snd1 X.K r g) (ha : DE X W a f1) : DE X W (.UnaryOp op a pos) (e1 g f1) := weakE (pe_un ho ha) (can1 hs)
theorem d_cmp {op : CmpOp} {r : R2} {g : PyData → PyData → Option PyData} (ho : OpR X (compareOp op) r) (hs : Snd2 X.K r g) (ha : DE X W a f1) (hb : DE X W b f2) (hm : behindInMarks op b = false) : DE X W (.Compare a [op] [b] pos) (e2 g f1 f2) := weakE (pe_cmpR ho ha hb hm) (can2 hs)
def toB (x : PyData) (e : Ev) : Res Bool := match x with
  | .bool b => .ok b e
  | _ => .no
def t2 (g : PyData → PyData → Option PyData) (a b : EM) : TM := fun e => (e2 g a b e).bind toB
theorem toB_end {G : Gd} {F : Hp} {σ : St} {env : Ev} {H : Hp} {x : PyData} {v : V} {Q : Bool → Hp → Prop} (j : J X.K X.mg G F env σ H) (p : PostR X W G F σ (fun b _ H' => Q b H') (toB x env)) (f : Fz X.K F v x) : ∃ k, v = .bl k ∧ Q k H := by
  unfold toB at p
  split at p
  · cases f
    exact ⟨_, rfl, p F H (Same.refl F) j⟩
  · exact p.elim
theorem canT2 {r : R2} {g : PyData → PyData → Option PyData} (hs : Snd2 X.K r g) (σ : St) (H : Hp) (Q : Bool → Hp → Prop) (h : canT X W (t2 g f1 f2) σ H Q) : tTest (tOp r (canE X W f1) (canE X W f2)) σ H Q := by
  obtain ⟨G, F, env, j, p⟩ := h
  refine can2 hs σ H _ ⟨G, F, env, j, p.bind.imp fun x F1 H1 s1 ⟨e1, j1, p2⟩ v fv => ?_⟩
  exact toB_end j1 p2 fv
theorem t_cmp {op : CmpOp} {r : R2} {g : PyData → PyData → Option PyData} (ho : OpR X (compareOp op) r) (hs : Snd2 X.K r g) (ha : DE X W a f1) (hb : DE X W b f2) (hm : behindInMarks op b = false) : DT X W (.Compare a [op] [b] pos) (t2 g f1 f2) := weakT (pt_cmpR ho ha hb hm) (canT2 hs)
theorem d_ix {r : R2} {g : PyData → PyData → Option PyData} (ho : IxR X r) (hs : Snd2 X.K r g) (ha : DE X W a f1) (hb : DE X W b f2) (hp : PlainIx b := by exact fun _ _ => rfl) : DE X W (.Subscript a b pos) (e2 g f1 f2) := weakE (pe_ix ho ha hb hp) (can2 hs)
/-! a op b op c -/
def eCh (g g' : PyData → PyData → Option PyData) (a b c : EM) : EM := fun e => (a e).bind fun x e1 => (b e1).bind fun y e2 => (lift (g x y) e2).bind fun z e3 => (toB z e3).bind fun k e4 => if k then (c e4).bind fun u e5 => lift (g' y u) e5 else .ok (.bool false) e4
theorem canCh {r r' : R2} {g g' : PyData → PyData → Option PyData} {f3 : EM} (hs : Snd2 X.K r g) (hs' : Snd2 X.K r' g') (σ : St) (H : Hp) (Q : VK) (h : canE X W (eCh g g' f1 f2 f3) σ H Q) : tChain r r' (canE X W f1) (canE X W f2) (canE X W f3) σ H Q := by
  obtain ⟨G, F, env, j, p⟩ := h
  refine ⟨G, F, env, j, p.bind.imp fun x F1 H1 s1 ⟨e1, j1, p2⟩ v fv => ?_⟩
  refine ⟨G, F1, e1, j1, p2.bind.imp fun y F2 H2 s2 ⟨e2, j2, p3⟩ w fw => ?_⟩
  cases hg : g x y with
  | none =>
    rw [hg] at p3
    exact p3.elim
  | some z =>
    rw [hg] at p3
    refine hs F2 H2 v w x y z _ j2.sub (fv.mono s2) fw hg fun u F3 H3 gr fu => ?_
    obtain ⟨s3, j3⟩ := j2.grow gr
    have p4 : PostR X W G F2 σ (fun d F' H' => ∀ v, Fz X.K F' v d → Q v H') ((toB z e2).bind fun k e4 => if k then (f3 e4).bind fun u e5 => lift (g' y u) e5 else .ok (.bool false) e4) := p3
    cases z with
    | bool k =>
      cases fu
      refine ⟨k, rfl, ?_⟩
      cases k with
      | false =>
        rw [if_neg Bool.false_ne_true]
        exact PostR.mono (r := Res.ok (PyData.bool false) e2) p4 s3 F3 H3 (Same.refl F3) j3 _ (.bl false)
      | true =>
        rw [if_pos rfl]
        have p5 : PostR X W G F2 σ (fun d F' H' => ∀ v, Fz X.K F' v d → Q v H') ((f3 e2).bind fun u e5 => lift (g' y u) e5) := p4
        refine ⟨G, F3, e2, j3, (p5.mono s3).bind.imp fun u F4 H4 s4 ⟨e5, j5, p6⟩ w' fw' => ?_⟩
        exact lift_end j5 p6 fun c hg' q => hs' F4 H4 w w' y u c Q j5.sub (fw.mono (s3.trans s4)) fw' hg' q
    | _ => exact p4.elim
theorem d_ch {c : Expr} {f3 : EM} {op op' : CmpOp} {r r' : R2} {g g' : PyData → PyData → Option PyData} (ho : OpR X (compareOp op) r) (hs : Snd2 X.K r g) (ho' : OpR X (compareOp op') r') (hs' : Snd2 X.K r' g') (ha : DE X W a f1) (hb : DE X W b f2) (hc : DE X W c f3)
    (hm : lastMarks [op, op'] [b, c] = false := by with_unfolding_all rfl) : DE X W (.Compare a [op, op'] [b, c] pos) (eCh g g' f1 f2 f3) := weakE (pe_chain ho ho' ha hb hc hm) (canCh hs hs')
def tB2 (f : EM) : TM := fun e => (f e).bind toB
theorem canTB {t : TE} {f : EM} (k : ∀ σ H Q, canE X W f σ H Q → t σ H Q) (σ : St) (H : Hp) (Q : Bool → Hp → Prop) (h : canT X W (tB2 f) σ H Q) : tTest t σ H Q := by
  obtain ⟨G, F, env, j, p⟩ := h
  refine k σ H _ ⟨G, F, env, j, p.bind.imp fun x F1 H1 s1 ⟨e1, j1, p2⟩ v fv => ?_⟩
  exact toB_end j1 p2 fv
theorem t_ch {c : Expr} {f3 : EM} {op op' : CmpOp} {r r' : R2} {g g' : PyData → PyData → Option PyData} (ho : OpR X (compareOp op) r) (hs : Snd2 X.K r g) (ho' : OpR X (compareOp op') r') (hs' : Snd2 X.K r' g') (ha : DE X W a f1) (hb : DE X W b f2) (hc : DE X W c f3)
    (hm : lastMarks [op, op'] [b, c] = false := by with_unfolding_all rfl) : DT X W (.Compare a [op, op'] [b, c] pos) (tB2 (eCh g g' f1 f2 f3)) := weakT (pt_chain ho ho' ha hb hc hm) (canTB (canCh hs hs'))
end

/-! ## truth, and, or, not, if -/
def sz : Nat := 16777216
theorem sz_eq : sizeLine = sz := sizeLine_eq
def truD : PyData → Option Bool
  | .none => some false
  | .bool b => some b
  | .int i => some (i != 0)
  | .str x => if x.length ≤ sz then some ((x.length : Int) != 0) else none
  | .list xs => some (!xs.isEmpty)
  | .tuple xs => some (!xs.isEmpty)
  | .dict _ => none
theorem fzL_empty {K : PySem.W.Frag} {F : Hp} {vs : List V} {ds : List PyData} (h : FzL K F vs ds) : vs.isEmpty = ds.isEmpty := by
  cases h <;> rfl
theorem truD_ok {K : PySem.W.Frag} {F H : Hp} {v : V} {d : PyData} {k : Bool} (s : Same F H) (h : Fz K F v d) (e : truD d = some k) : TruV K v H k := by
  cases h with
  | non => cases e; rfl
  | bl b => cases e; rfl
  | int i => cases e; rfl
  | str x =>
    have e : (if x.length ≤ sz then some ((x.length : Int) != 0) else none) = some k := e
    by_cases hx : x.length ≤ sz
    · rw [if_pos hx] at e
      cases e
      exact ⟨by rw [sz_eq]; exact hx, rfl⟩
    · rw [if_neg hx] at e
      cases e
  | lst h t => cases e; exact .inl ⟨_, s.seq h, by rw [fzL_empty t]⟩
  | tup h t => cases e; exact .inr (.inl ⟨_, sameT s (.inl (.inl h)), by rw [fzL_empty t]⟩)
  | dK _ _ => cases e
  | dT _ _ => cases e
  | kt _ _ => cases e
def tTru (f : EM) : TM := fun e => (f e).bind fun x e1 => lift (truD x) e1
def tAnd2 (f g : TM) : TM := fun e => (f e).bind fun c e1 => if c then g e1 else .ok false e1
def tOr2 (f g : TM) : TM := fun e => (f e).bind fun c e1 => if c then .ok true e1 else g e1
def tNot2 (f : TM) : TM := fun e => (f e).bind fun c e1 => .ok (!c) e1
def eIf (c : TM) (f g : EM) : EM := fun e => (c e).bind fun b e1 => if b then f e1 else g e1
def eAnd (f g : EM) : EM := fun e => (f e).bind fun x e1 => (lift (truD x) e1).bind fun k e2 => if k then g e2 else .ok x e2
def eOr (f g : EM) : EM := fun e => (f e).bind fun x e1 => (lift (truD x) e1).bind fun k e2 => if k then .ok x e2 else g e2
def eNot (f : EM) : EM := fun e => (f e).bind fun x e1 => (lift (truD x) e1).bind fun k e2 => .ok (.bool (!k)) e2
section
variable {X : Cx} {W : WX} {a b c : Expr} {rest : List Expr} {f g : EM} {p q : TM} {pos : Pos}
theorem t_tru (ha : DE X W a f) (he : ∀ whole, isTrue a X.env whole = (do let v ← whole; standAt a.pos; holding [v] (truthy v)) := by intro _; rfl) : DT X W a (tTru f) := by
  refine weakT (pt_truth ha he) fun σ H Q ⟨G, F, env, j, h⟩ => ?_
  refine ⟨G, F, env, j, h.bind.imp fun x F1 H1 s1 ⟨e1, j1, p2⟩ v fv => ?_⟩
  cases hk : truD x with
  | none => rw [hk] at p2; exact p2.elim
  | some k =>
    rw [hk] at p2
    exact ⟨k, truD_ok j1.sub fv hk, p2 F1 H1 (Same.refl F1) j1⟩
theorem t_not (ha : DT X W a p) : DT X W (.UnaryOp .Not a pos) (tNot2 p) := by
  refine weakT (pt_not ha) fun σ H Q ⟨G, F, env, j, h⟩ => ?_
  exact ⟨G, F, env, j, h.bind.imp fun x F1 H1 s1 ⟨e1, j1, p2⟩ => p2 F1 H1 (Same.refl F1) j1⟩
theorem w_and1 (ha : DT X W a p) : DW X W (.BoolOp .And [a] pos) p := pw_and1 ha
theorem w_or1 (ha : DT X W a p) : DW X W (.BoolOp .Or [a] pos) p := pw_or1 ha
theorem w_and (ha : DT X W a p) (hb : DW X W (.BoolOp .And (b :: rest) pos) q) : DW X W (.BoolOp .And (a :: b :: rest) pos) (tAnd2 p q) := by
  refine weakW (pw_and ha hb) fun σ H Q ⟨G, F, env, j, h⟩ => ?_
  refine ⟨G, F, env, j, h.bind.imp fun x F1 H1 s1 ⟨e1, j1, p2⟩ => ?_⟩
  cases x with
  | true =>
    rw [if_pos rfl]
    exact ⟨G, F1, e1, j1, p2⟩
  | false =>
    rw [if_neg Bool.false_ne_true]
    exact p2 F1 H1 (Same.refl F1) j1
theorem w_or (ha : DT X W a p) (hb : DW X W (.BoolOp .Or (b :: rest) pos) q) : DW X W (.BoolOp .Or (a :: b :: rest) pos) (tOr2 p q) := by
  refine weakW (pw_or ha hb) fun σ H Q ⟨G, F, env, j, h⟩ => ?_
  refine ⟨G, F, env, j, h.bind.imp fun x F1 H1 s1 ⟨e1, j1, p2⟩ => ?_⟩
  cases x with
  | true =>
    rw [if_pos rfl]
    exact p2 F1 H1 (Same.refl F1) j1
  | false =>
    rw [if_neg Bool.false_ne_true]
    exact ⟨G, F1, e1, j1, p2⟩
theorem t_w (h : DW X W a p) : DT X W a p := PW.pt h
theorem d_if (hc : DT X W c p) (ha : DE X W a f) (hb : DE X W b g) : DE X W (.IfExp c a b pos) (eIf p f g) := by
  refine weakE (pe_ifExp hc ha hb) fun σ H Q ⟨G, F, env, j, h⟩ => ?_
  refine ⟨G, F, env, j, h.bind.imp fun x F1 H1 s1 ⟨e1, j1, p2⟩ => ?_⟩
  cases x with
  | true =>
    rw [if_pos rfl]
    exact ⟨G, F1, e1, j1, p2⟩
  | false =>
    rw [if_neg Bool.false_ne_true]
    exact ⟨G, F1, e1, j1, p2⟩
theorem d_one {op : BoolOp} (h : DE X W a f) : DE X W (.BoolOp op [a] pos) f := pe_one h
theorem d_and (ha : DE X W a f) (hb : DE X W (.BoolOp .And (b :: rest) pos) g) : DE X W (.BoolOp .And (a :: b :: rest) pos) (eAnd f g) := by
  refine weakE (pe_andT ha hb) fun σ H Q ⟨G, F, env, j, h⟩ => ?_
  refine ⟨G, F, env, j, h.bind.imp fun x F1 H1 s1 ⟨e1, j1, p2⟩ v fv => ?_⟩
  cases hk : truD x with
  | none => rw [hk] at p2; exact p2.elim
  | some k =>
    rw [hk] at p2
    refine ⟨k, truD_ok j1.sub fv hk, ?_⟩
    cases k with
    | true =>
      rw [if_pos rfl]
      exact ⟨G, F1, e1, j1, p2⟩
    | false =>
      rw [if_neg Bool.false_ne_true]
      exact p2 F1 H1 (Same.refl F1) j1 v fv
theorem d_or (ha : DE X W a f) (hb : DE X W (.BoolOp .Or (b :: rest) pos) g) : DE X W (.BoolOp .Or (a :: b :: rest) pos) (eOr f g) := by
  refine weakE (pe_orT ha hb) fun σ H Q ⟨G, F, env, j, h⟩ => ?_
  refine ⟨G, F, env, j, h.bind.imp fun x F1 H1 s1 ⟨e1, j1, p2⟩ v fv => ?_⟩
  cases hk : truD x with
  | none => rw [hk] at p2; exact p2.elim
  | some k =>
    rw [hk] at p2
    refine ⟨k, truD_ok j1.sub fv hk, ?_⟩
    cases k with
    | false =>
      rw [if_neg Bool.false_ne_true]
      exact ⟨G, F1, e1, j1, p2⟩
    | true =>
      rw [if_pos rfl]
      exact p2 F1 H1 (Same.refl F1) j1 v fv
theorem d_not (ha : DE X W a f) : DE X W (.UnaryOp .Not a pos) (eNot f) := by
  refine weakE (pe_notT ha) fun σ H Q ⟨G, F, env, j, h⟩ => ?_
  refine ⟨G, F, env, j, h.bind.imp fun x F1 H1 s1 ⟨e1, j1, p2⟩ v fv => ?_⟩
  cases hk : truD x with
  | none => rw [hk] at p2; exact p2.elim
  | some k =>
    rw [hk] at p2
    exact ⟨k, truD_ok j1.sub fv hk, p2 F1 H1 (Same.refl F1) j1 _ (.bl _)⟩
end

/-! ## lists of arguments, displays -/
def lNil : LM := fun e => .ok [] e
def lCons (f : EM) (l : LM) : LM := fun e => (f e).bind fun x e1 => (l e1).bind fun xs e2 => .ok (x :: xs) e2
def aNil : AM := fun e => .ok [] e
def aCons (f : EM) (l : AM) : AM := fun e => (f e).bind fun x e1 => (l e1).bind fun xs e2 => .ok (.inl x :: xs) e2
def aIo (i : Nat) (l : AM) : AM := fun e => match e[i]? with
  | some (some _) => (l e).bind fun xs e2 => .ok (.inr i :: xs) e2
  | _ => .no
def eList (l : LM) : EM := fun e => (l e).bind fun xs e1 => if xs.length ≤ sz then .ok (.list xs) e1 else .no
def eTup (l : LM) : EM := fun e => (l e).bind fun xs e1 => if xs.length ≤ sz then .ok (.tuple xs) e1 else .no
section
variable {X : Cx} {W : WX} {e : Expr} {es : List Expr} {f : EM} {l : LM} {m : AM} {pos : Pos}
theorem l_nil : DL X W [] lNil := weakA pa_nil fun σ H Q ⟨G, F, env, j, h⟩ => h F H (Same.refl F) j [] .nil
theorem l_cons (ha : DE X W e f) (hr : DL X W es l) (hs : starEach (e :: es) X.env = (false, eval e X.env) :: starEach es X.env := by rfl) : DL X W (e :: es) (lCons f l) := by
  refine weakA (pa_cons ha hr hs) fun σ H Q ⟨G, F, env, j, h⟩ => ?_
  refine ⟨G, F, env, j, h.bind.imp fun x F1 H1 s1 ⟨e1, j1, p2⟩ v fv => ?_⟩
  refine ⟨G, F1, e1, j1, p2.bind.imp fun xs F2 H2 s2 ⟨e2, j2, p3⟩ vs fvs => ?_⟩
  exact p3 F2 H2 (Same.refl F2) j2 _ (.cons (fv.mono s2) fvs)
theorem a_nil : DA X W [] aNil := weakA pa_nil fun σ H Q ⟨G, F, env, j, h⟩ => h F H (Same.refl F) j [] .nil
theorem a_cons (ha : DE X W e f) (hr : DA X W es m) (hs : starEach (e :: es) X.env = (false, eval e X.env) :: starEach es X.env := by rfl) : DA X W (e :: es) (aCons f m) := by
  refine weakA (pa_cons ha hr hs) fun σ H Q ⟨G, F, env, j, h⟩ => ?_
  refine ⟨G, F, env, j, h.bind.imp fun x F1 H1 s1 ⟨e1, j1, p2⟩ v fv => ?_⟩
  refine ⟨G, F1, e1, j1, p2.bind.imp fun xs F2 H2 s2 ⟨e2, j2, p3⟩ vs fvs => ?_⟩
  exact p3 F2 H2 (Same.refl F2) j2 _ (.inl (fv.mono s2) fvs)
theorem a_io (i : Nat) {x : Str} {p : Pos} (hr : DA X W es m) (hN : X.N[i]? = some x := by rfl) (hv : Vis X.env.scope x := by first | exact Or.inl rfl | exact Or.inr (Or.inl rfl) | exact Or.inr (Or.inr rfl))
    (hs : starEach (.Name x p :: es) X.env = (false, eval (.Name x p) X.env) :: starEach es X.env := by rfl) (hd : (x == ("__debug__" : Str)) = false := by decide) (hcd : (x == ("__classdict__" : Str)) = false := by decide) :
    DA X W (.Name x p :: es) (aIo i m) := by
  refine weakA (pa_cons (pe_var hN hv hd hcd) hr hs) fun σ H Q ⟨G, F, env, j, h⟩ => ?_
  unfold aIo at h
  split at h
  · rename_i o eo
    obtain ⟨S, v, h1, _, _⟩ := j.row eo
    refine ⟨v, h1, G, F, env, j, h.bind.imp fun xs F2 H2 s2 ⟨e2, j2, p3⟩ vs fvs => ?_⟩
    exact p3 F2 H2 (Same.refl F2) j2 _ (.inr h1 fvs)
  · exact h.elim
theorem d_lst (h : DL X W es l) : DE X W (.List es pos) (eList l) := by
  refine weakE (pe_lst h) fun σ H Q ⟨G, F, env, j, h⟩ => ?_
  refine ⟨G, F, env, j, h.bind.imp fun xs F1 H1 s1 ⟨e1, j1, p2⟩ vs fv => ?_⟩
  split at p2
  · rename_i hl
    refine ⟨by rw [fv.length, sz_eq]; exact hl, fun p hp => ?_⟩
    exact p2 _ _ (same_new (j1.free hp)) (j1.newF hp _) _ (.lst (.inl (.inl upd_same)) (FzL.mono (same_new (j1.free hp)) fv))
  · exact p2.elim
theorem d_tup {x1} (h : DL X W es l) : DE X W (.Tuple es x1 pos) (eTup l) := by
  refine weakE (pe_tup h) fun σ H Q ⟨G, F, env, j, h⟩ => ?_
  refine ⟨G, F, env, j, h.bind.imp fun xs F1 H1 s1 ⟨e1, j1, p2⟩ vs fv => ?_⟩
  split at p2
  · rename_i hl
    refine ⟨by rw [fv.length, sz_eq]; exact hl, fun p hp => ?_⟩
    exact p2 _ _ (same_new (j1.free hp)) (j1.newF hp _) _ (.tup upd_same (FzL.mono (same_new (j1.free hp)) fv))
  · exact p2.elim
end

/-! ## slices, built-in functions, methods -/
def oN : OM := fun e => .ok none e
def oS (f : EM) : OM := fun e => (f e).bind fun x e1 => match x with
  | .int i => .ok (some i) e1
  | _ => .no
section
variable {X : Cx} {W : WX} {e o : Expr} {es : List Expr} {f : EM} {l : LM} {pos : Pos} {lo hi : Option Expr} {flo fhi : OM}
theorem o_none : DO X W none oN := weakO po_none fun σ H Q ⟨G, F, env, j, h⟩ => h F H (Same.refl F) j
theorem o_some (h : DE X W e f) : DO X W (some e) (oS f) := by
  refine weakO (po_some h) fun σ H Q ⟨G, F, env, j, h⟩ => ?_
  refine ⟨G, F, env, j, h.bind.imp fun x F1 H1 s1 ⟨e1, j1, p2⟩ v fv => ?_⟩
  cases x with
  | int i =>
    cases fv
    exact ⟨i, rfl, p2 F1 H1 (Same.refl F1) j1⟩
  | _ => exact p2.elim
theorem d_sl {p2 : Pos} {r : V → Option Int → Option Int → Hp → VK → Prop} {g : PyData → Option Int → Option Int → Option PyData} (hr : SlR X r) (hs : SndS X.K r g) (he : DE X W e f) (hl : DO X W lo flo) (hh : DO X W hi fhi) : DE X W (.Subscript e (.Slice lo hi none p2) pos) (eS g f flo fhi) :=
  weakE (pe_slice hr he hl hh) (canSl hs)
theorem d_callB {x : Str} {p : Pos} {id : String} {r : List V → Hp → VK → Prop} {g : List PyData → Option PyData} (hc : CallR X (.builtin id) r) (hs : SndL X.K r g) (hm : X.mg x = none) (hv : bootBuiltins x = some (.builtin id)) (ha : DL X W (e :: es) l) (hg : Gl X x := by rfl) (hn : x ≠ "__name__" := by decide) (hdb : (x == ("__debug__" : Str)) = false := by decide)
    (he : starEach (e :: es) X.env = (false, eval e X.env) :: starEach es X.env := by rfl) (hpl : (backTo pos (starEach es X.env)).any (·.1) = false := by rfl) : DE X W (.Call (.Name x p) (e :: es) [] pos) (eL g l) :=
  weakE (pe_callB hc hg hm hv ha hn hdb he hpl) (canCB hs)
theorem d_callTy {x : Str} {p : Pos} {T : String} {r : List V → Hp → VK → Prop} {g : List PyData → Option PyData} (hc : CallR X (.type T) r) (hs : SndL X.K r g) (hm : X.mg x = none) (hv : bootBuiltins x = some (.type T)) (ha : DL X W (e :: es) l) (hg : Gl X x := by rfl) (hn : x ≠ "__name__" := by decide) (hdb : (x == ("__debug__" : Str)) = false := by decide)
    (he : starEach (e :: es) X.env = (false, eval e X.env) :: starEach es X.env := by rfl) (hpl : (backTo pos (starEach es X.env)).any (·.1) = false := by rfl) : DE X W (.Call (.Name x p) (e :: es) [] pos) (eL g l) :=
  weakE (pe_callTy hc hg hm hv ha hn hdb he hpl) (canCB hs)
end
end Ly

set_option Elab.async false
set_option linter.all false
set_option maxRecDepth 100000
set_option maxHeartbeats 4000000
set_option autoImplicit false
namespace Ly
open PySem PySem.Spec L2

/-! ## what a for or a comprehension walks -/
def Walks (K : PySem.W.Frag) (T : It) (F H : Hp) (ds : List PyData) : Prop :=
  ∀ F' H', Same F F' → Same F' H' → ∀ i, (∀ d, ds[i]? = some d → T.go i H' ∧ ∀ x H'', T.yld i H' x H'' → ∃ F'', Grow F' H' F'' H'' ∧ Fz K F'' x d) ∧ (ds.length ≤ i → T.stop i H')
def canI (X : Cx) (W : WX) (f : LM) : TI := fun σ H R => ∃ G F env, J X.K X.mg G F env σ H ∧ PostR X W G F σ (fun ds F' H' => ∀ T, Walks X.K T F' H' ds → R T H') (f env)
def DI (X : Cx) (W : WX) (tg iter : Expr) (f : LM) : Prop := PI X tg iter (canI X W f)
theorem weakI {X : Cx} {tg e : Expr} {t t' : TI} (h : PI X tg e t) (k : ∀ σ H R, t' σ H R → t σ H R) : PI X tg e t' := ⟨fun pins s σ H R I q => h.run pins s σ H R I (k σ H R q)⟩

def itemsD : PyData → Option (List PyData)
  | .list ds => some ds
  | .tuple ds => some ds
  | .str x => some (x.cps.toList.map fun c => .str ⟨#[c]⟩)
  | _ => none
def itm (f : EM) : LM := fun e => (f e).bind fun d e1 => lift (itemsD d) e1
section
variable {X : Cx} {W : WX} {tg l : Expr} {f : EM}
theorem walks_list {K : PySem.W.Frag} {F H : Hp} {a : Addr} {xs : List V} {ds : List PyData} (h : SqL K F a xs) (t : FzL K F xs ds) : Walks K (Itl K a) F H ds := by
  intro F' H' s s' i
  refine ⟨fun d e => ?_, fun e => ⟨xs, s'.seq (s.seq h), by rw [t.length]; exact e⟩⟩
  obtain ⟨v, h1, h2⟩ := t.get e
  exact ⟨⟨xs, v, s'.seq (s.seq h), h1⟩, fun x H'' ⟨e1, y⟩ => by
    subst e1
    have z := y xs (s'.seq (s.seq h))
    rw [h1] at z
    cases z
    exact ⟨F', .refl, h2.mono s⟩⟩
theorem walks_tup {K : PySem.W.Frag} {F H : Hp} {a : Addr} {xs : List V} {ds : List PyData} (h : SqT K F a xs) (t : FzL K F xs ds) : Walks K (Itt K a) F H ds := by
  intro F' H' s s' i
  refine ⟨fun d e => ?_, fun e => ⟨xs, sameT s' (sameT s h), by rw [t.length]; exact e⟩⟩
  obtain ⟨v, h1, h2⟩ := t.get e
  exact ⟨⟨xs, v, sameT s' (sameT s h), h1⟩, fun x H'' ⟨e1, y⟩ => by
    subst e1
    have z := y xs (sameT s' (sameT s h))
    rw [h1] at z
    cases z
    exact ⟨F', .refl, h2.mono s⟩⟩
theorem walks_str {K : PySem.W.Frag} {F H : Hp} {x : Str} : Walks K (Its x) F H (x.cps.toList.map fun c => .str ⟨#[c]⟩) := by
  intro F' H' s s' i
  refine ⟨fun d e => ?_, fun e => by rw [List.length_map, Array.length_toList] at e; exact e⟩
  rw [List.getElem?_map, Array.getElem?_toList] at e
  cases hc : x.cps[i]? with
  | none => rw [hc] at e; cases e
  | some c =>
    rw [hc] at e
    cases e
    exact ⟨(Array.getElem?_eq_some_iff.mp hc).1, fun y H'' ⟨e1, c', e2, e3⟩ => by
      subst e1
      rw [hc] at e2
      cases e2
      subst e3
      exact ⟨F', .refl, .str _⟩⟩
theorem walks_range {K : PySem.W.Frag} {F H : Hp} {lo : Int} {n : Nat} : Walks K (Itr lo n) F H ((List.range n).map fun (i : Nat) => PyData.int (lo + i)) := by
  intro F' H' s s' i
  refine ⟨fun d e => ?_, fun e => by rw [List.length_map, List.length_range] at e; exact e⟩
  have hi : i < n := by
    have := (List.getElem?_eq_some_iff.mp e).1
    rw [List.length_map, List.length_range] at this
    exact this
  rw [List.getElem?_map, List.getElem?_range hi] at e
  cases e
  exact ⟨hi, fun x H'' ⟨e1, e2⟩ => by
    subst e1 e2
    exact ⟨F', .refl, .int _⟩⟩
/-- a list, a tuple, a text -/
theorem i_any (h : DE X W l f) : DI X W tg l (itm f) := by
  refine ⟨fun pins s σ H R I ⟨G, F, env, j, p⟩ => ?_⟩
  refine thn (PE.run h pins s σ H (fun v H1 => ∃ d F1, Same F1 H1 ∧ Fz X.K F1 v d ∧ ∃ ds, itemsD d = some ds ∧ ∀ T, Walks X.K T F1 H1 ds → R T H1) I ⟨G, F, env, j, ?_⟩) fun v s1 ⟨x, H1, I1, r1, d, F1, sm, fz, ds, hd, q⟩ => ?_
  · refine (PostR.bind p).imp fun d F1 H1 s1 ⟨e1, j1, p2⟩ v fv => ?_
    cases hd : itemsD d with
    | none => rw [hd] at p2; exact p2.elim
    | some ds =>
      rw [hd] at p2
      exact ⟨d, F1, j1.sub, fv, ds, hd, p2 F1 H1 (Same.refl F1) j1⟩
  · cases fz with
    | lst hs t =>
      cases hd
      have q1 := q _ (walks_list hs t)
      cases r1
      obtain ⟨its, rv, p, hz⟩ := I1.list (sm.seq hs)
      refine wpAny_pyIter_list p.isList ?_
      refine ⟨s1.heap.objs.size, [s1.heap.objs.size], _, _, H1, rfl, I1.kept (t' := s1.toks) fun b o e => Heap.get?_push_of_some _ e, turn_list _ _, ⟨_, Heap.get?_push_size _ rfl, rfl, rfl⟩, fun b hb => ?_, q1⟩
      have e : b = s1.heap.objs.size := by simpa using hb
      subst e
      exact I1.fpOk (Nat.le_refl _) (I1.hok.fresh (Nat.le_refl _))
    | tup hs t =>
      cases hd
      have q1 := q _ (walks_tup (.inl (.inl hs)) t)
      cases r1
      obtain ⟨its, rv, p, hz⟩ := I1.tuple (sameT sm (.inl (.inl hs)))
      refine wpAny_pyIter_tuple (show s1.heap.IsTuple _ its.toArray from p) ?_
      refine ⟨s1.heap.objs.size, [s1.heap.objs.size], _, _, H1, rfl, I1.kept (t' := s1.toks) fun b o e => Heap.get?_push_of_some _ e, turn_tuple _ _, ⟨_, Heap.get?_push_size _ rfl, rfl, rfl⟩, fun b hb => ?_, q1⟩
      have e : b = s1.heap.objs.size := by simpa using hb
      subst e
      exact I1.fpOk (Nat.le_refl _) (I1.hok.fresh (Nat.le_refl _))
    | str z =>
      cases hd
      have q1 := q _ walks_str
      obtain ⟨t, rfl⟩ := r1
      cases ha : z.cps.all (· < 128)
      · exact PySem.wpAny_pyIter_wide ha (pi_one (tk := s1.toks) I1 _ (turn_str _ z t "str_iterator" (.inr rfl)) ⟨_, Heap.get?_push_size _ rfl, rfl, rfl⟩ q1)
      · exact PySem.wpAny_pyIter_ascii ha (pi_one (tk := s1.toks) I1 _ (turn_str _ z t "str_ascii_iterator" (.inl rfl)) ⟨_, Heap.get?_push_size _ rfl, rfl, rfl⟩ q1)
    | _ => cases hd
def bnd62 (i : Int) : Bool := decide (-(2 ^ 62) ≤ i) && decide (i < 2 ^ 62)
def rngL (lo hi : Int) : List PyData := (List.range (hi - lo).toNat).map fun (i : Nat) => PyData.int (lo + i)
def rng1 : List PyData → Option (List PyData)
  | [.int j] => if bnd62 j then some (rngL 0 j) else none
  | _ => none
def rng2 : List PyData → Option (List PyData)
  | [.int i, .int j] => if bnd62 i && bnd62 j then some (rngL i j) else none
  | _ => none
def iL (g : List PyData → Option (List PyData)) (l : LM) : LM := fun e => (l e).bind fun xs e1 => lift (g xs) e1
theorem bnd_of {i : Int} (h : bnd62 i = true) : -(2 ^ 62) ≤ i ∧ i < 2 ^ 62 := by
  unfold bnd62 at h
  rw [Bool.and_eq_true] at h
  exact ⟨of_decide_eq_true h.1, of_decide_eq_true h.2⟩
theorem i_r1 {a : Expr} {m : LM} {p pos : Pos} (hm : X.mg "range" = none) (ha : DL X W [a] m) (hg : Gl X "range" := by rfl) (hs : starEach [a] X.env = [(false, eval a X.env)] := by rfl) : DI X W tg (.Call (.Name "range" p) [a] [] pos) (iL rng1 m) := by
  refine weakI (pi_range1 hg hm ha hs) fun σ H R ⟨G, F, env, j, h⟩ => ?_
  refine ⟨G, F, env, j, h.bind.imp fun xs F1 H1 s1 ⟨e1, j1, p2⟩ vs fv => ?_⟩
  match xs, fv, p2 with
  | [.int k], .cons (.int _) .nil, p2 =>
    unfold rng1 at p2
    by_cases hb : bnd62 k = true
    · simp only [hb, if_true] at p2
      have w : Walks X.K (Itr 0 k.toNat) F1 H1 (rngL 0 k) := by
        have := walks_range (K := X.K) (F := F1) (H := H1) (lo := 0) (n := k.toNat)
        unfold rngL
        rw [Int.sub_zero]
        exact this
      exact ⟨k, rfl, (bnd_of hb).1, (bnd_of hb).2, p2 F1 H1 (Same.refl F1) j1 _ w⟩
    · simp only [hb] at p2
      exact p2.elim
  | [], _, p2 => exact p2.elim
  | [.none], _, p2 => exact p2.elim
  | [.bool _], _, p2 => exact p2.elim
  | [.str _], _, p2 => exact p2.elim
  | [.list _], _, p2 => exact p2.elim
  | [.tuple _], _, p2 => exact p2.elim
  | [.dict _], _, p2 => exact p2.elim
  | _ :: _ :: _, _, p2 =>
    have z : ∀ (a b : PyData) (r : List PyData), rng1 (a :: b :: r) = none := fun a b r => by cases a <;> rfl
    rw [z] at p2
    exact p2.elim
theorem i_r2 {a b : Expr} {m : LM} {p pos : Pos} (hm : X.mg "range" = none) (ha : DL X W [a, b] m) (hg : Gl X "range" := by rfl) (hs : starEach [a, b] X.env = [(false, eval a X.env), (false, eval b X.env)] := by rfl) (hs2 : starEach [b] X.env = [(false, eval b X.env)] := by rfl) :
    DI X W tg (.Call (.Name "range" p) [a, b] [] pos) (iL rng2 m) := by
  refine weakI (pi_range2 hg hm ha hs hs2) fun σ H R ⟨G, F, env, j, h⟩ => ?_
  refine ⟨G, F, env, j, h.bind.imp fun xs F1 H1 s1 ⟨e1, j1, p2⟩ vs fv => ?_⟩
  have key : ∀ i k : Int, xs = [.int i, .int k] → ∃ i k : Int, vs = [.int i, .int k] ∧ (-(2 ^ 62) ≤ i ∧ i < 2 ^ 62 ∧ -(2 ^ 62) ≤ k ∧ k < 2 ^ 62) ∧ R (Itr i (k - i).toNat) H1 := fun i k e => by
    subst e
    cases fv with
    | cons f1 f2 =>
      cases f1
      cases f2 with
      | cons f3 f4 =>
        cases f3
        cases f4
        unfold rng2 at p2
        by_cases hb : (bnd62 i && bnd62 k) = true
        · simp only [hb, if_true] at p2
          rw [Bool.and_eq_true] at hb
          exact ⟨i, k, rfl, ⟨(bnd_of hb.1).1, (bnd_of hb.1).2, (bnd_of hb.2).1, (bnd_of hb.2).2⟩, p2 F1 H1 (Same.refl F1) j1 _ walks_range⟩
        · simp only [hb] at p2
          exact p2.elim
  cases hr : rng2 xs with
  | none => rw [hr] at p2; exact p2.elim
  | some ds =>
    unfold rng2 at hr
    split at hr
    · exact key _ _ rfl
    · cases hr
end

/-! ## targets -/
abbrev UM := PyData → Option (List (Nat × PyData))
abbrev UMs := List PyData → Option (List (Nat × PyData))
def setAll (σ : St) : List Nat → List V → St
  | i :: is, v :: vs => setAll (σ.set i (some v)) is vs
  | _, _ => σ
def setEv (e : Ev) : List (Nat × PyData) → Ev
  | [] => e
  | (i, d) :: r => setEv (e.set i (some (.fr d))) r
def uN (i : Nat) : UM := fun d => some [(i, d)]
def uT (n : Nat) (us : UMs) : UM := fun d => match d with
  | .tuple ds => if ds.length = n then us ds else none
  | _ => none
def usN : UMs := fun ds => match ds with
  | [] => some []
  | _ => none
def usC (u : UM) (us : UMs) : UMs := fun ds => match ds with
  | d :: r => (match u d, us r with
    | some a, some b => some (a ++ b)
    | _, _ => none)
  | [] => none
def canG (K : PySem.W.Frag) (u : UM) : TG := fun v σ H Q => ∃ F d as, Same F H ∧ Fz K F v d ∧ u d = some as ∧ ∀ vs, FzL K F vs (as.map (·.2)) → Q (setAll σ (as.map (·.1)) vs) H
def canGs (K : PySem.W.Frag) (u : UMs) : TGs := fun ws σ H Q => ∃ F ds as, Same F H ∧ FzL K F ws ds ∧ u ds = some as ∧ ∀ vs, FzL K F vs (as.map (·.2)) → Q (setAll σ (as.map (·.1)) vs) H
structure DG (X : Cx) (is : List Nat) (tg : Expr) (u : UM) : Prop where
  run : PG X tg (canG X.K u)
  st : ∀ d as, u d = some as → as.map (·.1) = is
structure DGs (X : Cx) (is : List Nat) (tgs : List Expr) (u : UMs) : Prop where
  run : PGs X tgs (canGs X.K u)
  st : ∀ d as, u d = some as → as.map (·.1) = is
theorem setAll_app {is js : List Nat} {vs ws : List V} : ∀ {σ : St}, is.length = vs.length → setAll σ (is ++ js) (vs ++ ws) = setAll (setAll σ is vs) js ws := by
  induction is generalizing vs with
  | nil =>
    intro σ h
    cases vs with
    | nil => rfl
    | cons _ _ => simp at h
  | cons i is ih =>
    intro σ h
    cases vs with
    | nil => simp at h
    | cons v vs => exact ih (by simpa using h)
section
variable {X : Cx} {pos : Pos}
theorem g_n (i : Nat) {x : Str} (hN : X.N.Nodup) (hi : X.N[i]? = some x := by rfl) (hx : Loc X.env.scope x := by first | exact Or.inl rfl | exact Or.inr rfl) (hf : X.fn x = true ∨ X.env.scope.names.lookup x = some .local := by first | exact .inl rfl | exact .inr rfl) : DG X [i] (.Name x pos) (uN i) := by
  refine ⟨⟨fun pins s σ H v u Q I r ⟨F, d, as, sm, fz, ha, q⟩ => ?_⟩, fun d as h => by cases h; rfl⟩
  cases ha
  exact (pg_name hN hi hx hf).run pins s σ H v u Q I r (q [v] (.cons fz .nil))
theorem gs_n : DGs X [] [] usN := by
  refine ⟨⟨fun pins s σ H vs us Q I r ⟨F, ds, as, sm, fz, ha, q⟩ => ?_⟩, fun d as h => ?_⟩
  · cases fz with
    | nil =>
      cases ha
      exact pgs_nil.run pins s σ H [] us Q I r ⟨rfl, q [] .nil⟩
    | cons _ _ => cases ha
  · cases d with
    | nil => cases h; rfl
    | cons _ _ => cases h
theorem fzL_split {K : PySem.W.Frag} {F : Hp} : ∀ {vs : List V} {ds es : List PyData}, FzL K F vs (ds ++ es) → ∃ v1 v2, vs = v1 ++ v2 ∧ FzL K F v1 ds ∧ FzL K F v2 es
  | vs, [], es, h => ⟨[], vs, rfl, .nil, h⟩
  | _, d :: ds, es, .cons h t => by
    obtain ⟨v1, v2, e, h1, h2⟩ := fzL_split t
    exact ⟨_ :: v1, v2, by rw [e]; rfl, .cons h h1, h2⟩
theorem gs_c {is js : List Nat} {e : Expr} {es : List Expr} {u : UM} {us : UMs} (h1 : DG X is e u) (h2 : DGs X js es us)
    (hs : (assignEach (e :: es) X.env).map (·.2) = assign e X.env :: (assignEach es X.env).map (·.2) := by rfl) : DGs X (is ++ js) (e :: es) (usC u us) := by
  refine ⟨⟨fun pins s σ H vs us' Q I r ⟨F, ds, as, sm, fz, ha, q⟩ => ?_⟩, fun d as h => ?_⟩
  · cases fz with
    | nil => cases ha
    | @cons v vs d ds fv ft =>
      simp only [usC] at ha
      cases hu : u d with
      | none => rw [hu] at ha; cases ha
      | some a =>
        cases hv : us ds with
        | none => rw [hu, hv] at ha; cases ha
        | some b =>
          rw [hu, hv] at ha
          cases ha
          refine (pgs_cons h1.run h2.run hs).run pins s σ H _ us' Q I r ⟨v, vs, rfl, F, d, a, sm, fv, hu, fun ws fw => ⟨F, ds, b, sm, ft, hv, fun zs fz => ?_⟩⟩
          have := q (ws ++ zs) (by rw [List.map_append]; exact fw.app fz)
          rw [List.map_append, setAll_app (by rw [fw.length, List.length_map, List.length_map])] at this
          exact this
  · cases d with
    | nil => cases h
    | cons d r =>
      simp only [usC] at h
      cases hu : u d with
      | none => rw [hu] at h; cases h
      | some a =>
        cases hv : us r with
        | none => rw [hu, hv] at h; cases h
        | some b =>
          rw [hu, hv] at h
          cases h
          rw [List.map_append, h1.st _ _ hu, h2.st _ _ hv]
theorem g_t {is : List Nat} {es : List Expr} {k n : Nat} {us : UMs} (hc : X.calm = true) (h : DGs X is es us) (hn : (assignEach es X.env).length = n := by rfl) (hst : (assignEach es X.env).findIdx? (·.1) = none := by rfl) : DG X is (.Tuple es k pos) (uT n us) := by
  refine ⟨⟨fun pins s σ H v u Q I r ⟨F, d, as, sm, fz, ha, q⟩ => ?_⟩, fun d as h2 => ?_⟩
  · cases fz with
    | tup hs t =>
      simp only [uT] at ha
      split at ha
      · rename_i hl
        exact (pg_tup hc h.run hn hst).run pins s σ H _ u Q I r ⟨_, _, rfl, sameT sm (.inl (.inl hs)), by rw [t.length]; exact hl, F, _, as, sm, t, ha, q⟩
      · cases ha
    | _ => cases ha
  · cases d with
    | tuple ds =>
      simp only [uT] at h2
      split at h2
      · exact h.st _ _ h2
      · cases h2
    | _ => cases h2
end
section
variable {K : PySem.W.Frag} {mg : MG} {G : Gd} {F : Hp} {H : Hp}
theorem J.setAll : ∀ {as : List (Nat × PyData)} {env : Ev} {σ : St} {vs : List V}, J K mg G F env σ H → FzL K F vs (as.map (·.2)) → (∀ i ∈ as.map (·.1), i ∉ G.io.map (·.1)) → J K mg G F (setEv env as) (setAll σ (as.map (·.1)) vs) H
  | [], _, _, _, j, f, _ => by cases f; exact j
  | (i, d) :: r, _, _, _, j, .cons h t, k => J.setAll (as := r) (j.setF h (k i List.mem_cons_self)) t fun i' hi => k i' (List.mem_cons_of_mem _ hi)
end

/-! ## statements -/
inductive Out where
  | nx (e : Ev)
  | rt (d : PyData) (e : Ev)
  | bk (e : Ev)
  | ct (e : Ev)
  | exc (c : Str) (e : Ev)
  | no
abbrev SM := Ev → Out
def Res.out {α : Type} (r : Res α) (k : α → Ev → Out) : Out := match r with
  | .ok a e => k a e
  | .exc c e => .exc c e
  | .no => .no
def PostS (X : Cx) (W : WX) (G : Gd) (F : Hp) (D : Ends) : Out → Prop
  | .nx e => ∀ F' σ' H', Same F F' → J X.K X.mg G F' e σ' H' → D.nx σ' H'
  | .rt d e => ∀ F' σ' H' v, Same F F' → J X.K X.mg G F' e σ' H' → Fz X.K F' v d → D.rt v H'
  | .bk e => ∀ F' σ' H', Same F F' → J X.K X.mg G F' e σ' H' → D.bk σ' H'
  | .ct e => ∀ F' σ' H', Same F F' → J X.K X.mg G F' e σ' H' → D.ct σ' H'
  | .exc c e => ∀ F' σ' H' C, X.mg c = some (.ref C) → Same F F' → J X.K X.mg G F' e σ' H' → W (.ref C) none σ' H'
  | .no => False
def canS (X : Cx) (W : WX) (ks : List Nat) (g : SM) : TS := fun D σ H => ∃ G F env, G.io.map (·.1) = ks ∧ J X.K X.mg G F env σ H ∧ PostS X W G F D (g env)
def DS (X : Cx) (W : WX) (ks : List Nat) (st : Stmt) (g : SM) : Prop := PS X st (canS X W ks g)
def DB (X : Cx) (W : WX) (ks : List Nat) (st : List Stmt) (g : SM) : Prop := PSs X st (canS X W ks g)
theorem weakS {X : Cx} {st : Stmt} {t t' : TS} (h : PS X st t) (k : ∀ D σ H, t' D σ H → t D σ H) : PS X st t' := ⟨fun pins s σ H D I q => h.run pins s σ H D I (k D σ H q)⟩
theorem weakB {X : Cx} {st : List Stmt} {t t' : TS} (h : PSs X st t) (k : ∀ D σ H, t' D σ H → t D σ H) : PSs X st t' := ⟨fun pins s σ H D I q => h.run pins s σ H D I (k D σ H q)⟩
section
variable {X : Cx} {W : WX} {G : Gd} {F F' : Hp} {D D' : Ends} {σ : St}
theorem PostS.mono {o : Out} (h : PostS X W G F D o) (s : Same F F') : PostS X W G F' D o := by
  cases o with
  | nx e => exact fun F2 σ2 H2 s2 j => h F2 σ2 H2 (s.trans s2) j
  | rt d e => exact fun F2 σ2 H2 v s2 j f => h F2 σ2 H2 v (s.trans s2) j f
  | bk e => exact fun F2 σ2 H2 s2 j => h F2 σ2 H2 (s.trans s2) j
  | ct e => exact fun F2 σ2 H2 s2 j => h F2 σ2 H2 (s.trans s2) j
  | exc c e => exact fun F2 σ2 H2 C hc s2 j => h F2 σ2 H2 C hc (s.trans s2) j
  | no => exact h
theorem PostS.out {α : Type} {r : Res α} {k : α → Ev → Out} (h : PostS X W G F D (r.out k)) : PostR X W G F σ (fun a F' H' => ∃ e', J X.K X.mg G F' e' σ H' ∧ PostS X W G F' D (k a e')) r := by
  cases r with
  | ok a e => exact fun F' H' s j => ⟨e, j, PostS.mono h s⟩
  | exc c e => exact fun F' H' C hc s j => h F' σ H' C hc s j
  | no => exact h
end
def sSeq (g h : SM) : SM := fun e => match g e with
  | .nx e1 => h e1
  | .rt d e1 => .rt d e1
  | .bk e1 => .bk e1
  | .ct e1 => .ct e1
  | .exc c e1 => .exc c e1
  | .no => .no
def sNx : SM := fun e => .nx e
def sBk : SM := fun e => .bk e
def sCt : SM := fun e => .ct e
def sRt (f : EM) : SM := fun e => (f e).out fun d e1 => .rt d e1
def sRtN : SM := fun e => .rt .none e
def sEx (f : EM) : SM := fun e => (f e).out fun _ e1 => .nx e1
def sSt (i : Nat) (f : EM) : SM := fun e => (f e).out fun d e1 => .nx (e1.set i (some (.fr d)))
def sUp (u : UM) (f : EM) : SM := fun e => (f e).out fun d e1 => match u d with
  | some as => .nx (setEv e1 as)
  | none => .no
def sIf (c : TM) (g h : SM) : SM := fun e => (c e).out fun b e1 => if b then g e1 else h e1
section
variable {X : Cx} {W : WX} {ks : List Nat} {st : Stmt} {sts : List Stmt} {g h : SM} {f : EM} {e : Expr} {pos : Pos}
theorem b_nil : DB X W ks [] sNx := weakB pss_nil fun D σ H ⟨G, F, env, hk, j, p⟩ => p F σ H (Same.refl F) j
theorem canSeq {t : TS} {t2 : TS} (k1 : ∀ D σ H, canS X W ks g D σ H → t D σ H) (k2 : ∀ D σ H, canS X W ks h D σ H → t2 D σ H) (D : Ends) (σ : St) (H : Hp) (q : canS X W ks (sSeq g h) D σ H) : tSeq t t2 D σ H := by
  obtain ⟨G, F, env, hk, j, p⟩ := q
  refine k1 _ σ H ⟨G, F, env, hk, j, ?_⟩
  unfold sSeq at p
  cases hg : g env with
  | nx e1 =>
    rw [hg] at p
    exact fun F' σ' H' s j' => k2 D σ' H' ⟨G, F', e1, hk, j', PostS.mono p s⟩
  | rt d e1 => rw [hg] at p; exact p
  | bk e1 => rw [hg] at p; exact p
  | ct e1 => rw [hg] at p; exact p
  | exc c e1 => rw [hg] at p; exact p
  | no => rw [hg] at p; exact p
theorem b_c (h1 : DS X W ks st g) (h2 : DB X W ks sts h) : DB X W ks (st :: sts) (sSeq g h) := weakB (pss_cons h1 h2) (canSeq (fun _ _ _ q => q) fun _ _ _ q => q)
theorem b_1 (h1 : DS X W ks st g) : DB X W ks [st] g := pss_one h1
theorem s_pass : DS X W ks (.Pass pos) sNx := weakS ps_pass fun D σ H ⟨G, F, env, hk, j, p⟩ => p F σ H (Same.refl F) j
theorem s_break : DS X W ks (.Break pos) sBk := weakS ps_break fun D σ H ⟨G, F, env, hk, j, p⟩ => p F σ H (Same.refl F) j
theorem s_cont : DS X W ks (.Continue pos) sCt := weakS ps_continue fun D σ H ⟨G, F, env, hk, j, p⟩ => p F σ H (Same.refl F) j
theorem s_ret (ha : DE X W e f) : DS X W ks (.Return (some e) pos) (sRt f) := weakS (ps_ret ha) fun D σ H ⟨G, F, env, hk, j, p⟩ =>
  ⟨G, F, env, j, (PostS.out p).imp fun d F1 H1 s1 ⟨e1, j1, p2⟩ v fv => p2 F1 σ H1 v (Same.refl F1) j1 fv⟩
theorem s_retN : DS X W ks (.Return none pos) sRtN := weakS ps_retN fun D σ H ⟨G, F, env, hk, j, p⟩ => p F σ H .non (Same.refl F) j .non
theorem s_expr (ha : DE X W e f) (hs : swapsWith e none pos.line X.env = pure false := by rfl) : DS X W ks (.Expr e pos) (sEx f) := weakS (ps_expr ha hs) fun D σ H ⟨G, F, env, hk, j, p⟩ =>
  ⟨G, F, env, j, (PostS.out p).imp fun d F1 H1 s1 ⟨e1, j1, p2⟩ v fv => p2 F1 σ H1 (Same.refl F1) j1⟩
theorem canSt {i : Nat} {te : TE} (k : ∀ σ H Q, canE X W f σ H Q → te σ H Q) (hi : i ∉ ks) (D : Ends) (σ : St) (H : Hp) (q : canS X W ks (sSt i f) D σ H) : tAsg te (gName i) D σ H := by
  obtain ⟨G, F, env, hk, j, p⟩ := q
  refine k σ H _ ⟨G, F, env, j, (PostS.out p).imp fun d F1 H1 s1 ⟨e1, j1, p2⟩ v fv => ?_⟩
  exact p2 F1 _ H1 (Same.refl F1) (j1.setF fv (by rw [hk]; exact hi))
theorem s_set (i : Nat) {x : Str} {pos' : Pos} (hN : X.N.Nodup) (ha : DE X W e f) (hi : X.N[i]? = some x := by rfl) (hx : Loc X.env.scope x := by first | exact Or.inl rfl | exact Or.inr rfl) (hks : i ∉ ks := by decide) (hs : swapsWith e (some (.Name x pos')) pos.line X.env = pure false := by rfl)
    (hf : X.fn x = true ∨ X.env.scope.names.lookup x = some .local := by first | exact .inl rfl | exact .inr rfl) : DS X W ks (.Assign [.Name x pos'] e pos) (sSt i f) :=
  weakS (ps_set hN hi hx ha hs hf) (canSt (fun _ _ _ q => q) hks)
theorem s_up {is : List Nat} {tg : Expr} {u : UM} (ha : DE X W e f) (hg : DG X is tg u) (hks : ∀ i ∈ is, i ∉ ks := by decide) (hs : swapsWithSole [tg] e pos.line X.env = pure false := by rfl) (hw : swappedStores [tg] e X.env = pure none := by rfl)
    (h1 : (assignEach [tg] X.env).map (·.2) = [assign tg X.env] := by rfl) : DS X W ks (.Assign [tg] e pos) (sUp u f) := by
  refine weakS (ps_asg ha hg.run hs hw h1) fun D σ H ⟨G, F, env, hk, j, p⟩ => ?_
  refine ⟨G, F, env, j, (PostS.out p).imp fun d F1 H1 s1 ⟨e1, j1, p2⟩ v fv => ?_⟩
  cases hu : u d with
  | none => simp only [hu] at p2; exact p2.elim
  | some as =>
    simp only [hu] at p2
    exact ⟨F1, d, as, j1.sub, fv, hu, fun vs fvs => p2 F1 _ H1 (Same.refl F1) (j1.setAll fvs fun i hi => by rw [hk]; exact hks i (by rw [← hg.st d as hu]; exact hi))⟩
theorem s_if {c : Expr} {a b : List Stmt} {tc : TM} (hc : DT X W c tc) (ha : DB X W ks a g) (hb : DB X W ks b h) : DS X W ks (.If c a b pos) (sIf tc g h) := by
  refine weakS (ps_if hc ha hb) fun D σ H ⟨G, F, env, hk, j, p⟩ => ?_
  refine ⟨G, F, env, j, (PostS.out p).imp fun x F1 H1 s1 ⟨e1, j1, p2⟩ => ?_⟩
  cases x with
  | true =>
    rw [if_pos rfl]
    exact ⟨G, F1, e1, hk, j1, p2⟩
  | false =>
    rw [if_neg Bool.false_ne_true]
    exact ⟨G, F1, e1, hk, j1, p2⟩
end

/-! ## loops -/
def forL (u : UM) (g : SM) : List PyData → SM
  | [], e => .nx e
  | d :: ds, e => match u d with
    | none => .no
    | some as => match g (setEv e as) with
      | .nx e1 => forL u g ds e1
      | .ct e1 => forL u g ds e1
      | .bk e1 => .nx e1
      | .rt d e1 => .rt d e1
      | .exc c e1 => .exc c e1
      | .no => .no
def sFor (it : LM) (u : UM) (g : SM) : SM := fun e => (it e).out fun ds e1 => forL u g ds e1
def sWh (n : Nat) (c : TM) (g : SM) : SM := match n with
  | 0 => fun _ => .no
  | n + 1 => fun e => (c e).out fun b e1 => if b then (match g e1 with
      | .nx e2 => sWh n c g e2
      | .ct e2 => sWh n c g e2
      | .bk e2 => .nx e2
      | .rt d e2 => .rt d e2
      | .exc c e2 => .exc c e2
      | .no => .no) else .nx e1
section
variable {X : Cx} {W : WX} {ks : List Nat} {g : SM} {pos : Pos}
theorem s_for {tg iter : Expr} {body : List Stmt} {it : LM} {u : UM} {is : List Nat} (hp : PassesOwn (model X.prog X.w) X.A X.env X.xe) (hc : X.calm = true) (hi : DI X W tg iter it) (hg : DG X is tg u) (hb : DB X W ks body g) (hks : ∀ i ∈ is, i ∉ ks := by decide)
    (hs : ∀ x, foldedSetIterable iter X.env x = pure x := by intro _; rfl) : DS X W ks (.For tg iter body [] pos) (sFor it u g) := by
  refine weakS (ps_for hp hc hi hg.run hb hs) fun D σ H ⟨G, F, env, hk, j, p⟩ => ?_
  refine ⟨G, F, env, j, (PostS.out p).imp fun ds F1 H1 s1 ⟨e1, j1, p2⟩ T w => ?_⟩
  refine ⟨fun i m σ' H' => ∃ F' env', Same F1 F' ∧ J X.K X.mg G F' env' σ' H' ∧ i + m = ds.length ∧ PostS X W G F' D (forL u g (ds.drop i) env'), ⟨ds.length, F1, e1, Same.refl F1, j1, by omega, p2⟩, ?_⟩
  rintro i m σ' H' ⟨F', env', s', j', him, q⟩
  obtain ⟨wg, ws⟩ := w F' H' s' j'.sub i
  by_cases hlt : i < ds.length
  · have hd : ds[i]? = some ds[i] := List.getElem?_eq_getElem hlt
    obtain ⟨go, yld⟩ := wg _ hd
    have hdrop : ds.drop i = ds[i] :: ds.drop (i + 1) := List.drop_eq_getElem_cons hlt
    rw [hdrop] at q
    unfold forL at q
    refine .inr ⟨go, fun σ2 H2 => ∃ F2 env2, Same F1 F2 ∧ J X.K X.mg G F2 env2 σ2 H2 ∧ PostS X W G F2 D (forL u g (ds.drop (i + 1)) env2), fun σ2 H2 ⟨F2, env2, q1, q2, q3⟩ => ⟨m - 1, by omega, F2, env2, q1, q2, by omega, q3⟩, fun x H'' y => ?_⟩
    obtain ⟨F'', gr, fx⟩ := yld x H'' y
    obtain ⟨s'', j''⟩ := j'.grow gr
    cases hu : u ds[i] with
    | none => simp only [hu] at q; exact q.elim
    | some as =>
      simp only [hu] at q
      refine ⟨F'', ds[i], as, j''.sub, fx, hu, fun vs fvs => ?_⟩
      have j3 := j''.setAll fvs fun i' hi' => by rw [hk]; exact hks i' (by rw [← hg.st _ as hu]; exact hi')
      refine ⟨G, F'', _, hk, j3, ?_⟩
      cases hgo : g (setEv env' as) with
      | nx e2 =>
        simp only [hgo] at q
        exact fun F3 σ3 H3 s3 j4 => ⟨F3, e2, (s'.trans s'').trans s3, j4, PostS.mono q (s''.trans s3)⟩
      | ct e2 =>
        simp only [hgo] at q
        exact fun F3 σ3 H3 s3 j4 => ⟨F3, e2, (s'.trans s'').trans s3, j4, PostS.mono q (s''.trans s3)⟩
      | bk e2 =>
        simp only [hgo] at q
        exact fun F3 σ3 H3 s3 j4 => q F3 σ3 H3 (s''.trans s3) j4
      | rt d e2 =>
        simp only [hgo] at q
        exact fun F3 σ3 H3 v s3 j4 f => q F3 σ3 H3 v (s''.trans s3) j4 f
      | exc c e2 =>
        simp only [hgo] at q
        exact fun F3 σ3 H3 C hC s3 j4 => q F3 σ3 H3 C hC (s''.trans s3) j4
      | no => simp only [hgo] at q; exact q.elim
  · have e : i = ds.length := by omega
    subst e
    rw [List.drop_length] at q
    exact .inl ⟨ws (Nat.le_refl _), q F' σ' H' (Same.refl F') j'⟩
theorem s_while (n : Nat) {c : Expr} {body : List Stmt} {tc : TM} (hp : PassesOwn (model X.prog X.w) X.A X.env X.xe) (hc : DT X W c tc) (hb : DB X W ks body g) : DS X W ks (.While c body [] pos) (sWh n tc g) := by
  refine weakS (ps_while hp hc hb) fun D σ H ⟨G, F, env, hk, j, p⟩ => ?_
  refine ⟨fun m σ' H' => ∃ F' env', J X.K X.mg G F' env' σ' H' ∧ PostS X W G F' D (sWh m tc g env'), ⟨n, F, env, j, p⟩, ?_⟩
  rintro m σ' H' ⟨F', env', j', q⟩
  cases m with
  | zero => exact q.elim
  | succ m =>
    unfold sWh at q
    refine ⟨G, F', env', j', (PostS.out q).imp fun b F1 H1 s1 ⟨e1, j1, p2⟩ => ?_⟩
    cases b with
    | false =>
      rw [if_neg Bool.false_ne_true]
      exact p2 F1 σ' H1 (Same.refl F1) j1
    | true =>
      rw [if_pos rfl]
      simp only [if_true] at p2
      refine ⟨fun σ2 H2 => ∃ F2 env2, J X.K X.mg G F2 env2 σ2 H2 ∧ PostS X W G F2 D (sWh m tc g env2), fun σ2 H2 q => ⟨m, Nat.lt_succ_self m, q⟩, G, F1, e1, hk, j1, ?_⟩
      cases hgo : g e1 with
      | nx e2 =>
        simp only [hgo] at p2
        exact fun F3 σ3 H3 s3 j4 => ⟨F3, e2, j4, PostS.mono p2 s3⟩
      | ct e2 =>
        simp only [hgo] at p2
        exact fun F3 σ3 H3 s3 j4 => ⟨F3, e2, j4, PostS.mono p2 s3⟩
      | bk e2 =>
        simp only [hgo] at p2
        exact p2
      | rt d e2 =>
        simp only [hgo] at p2
        exact p2
      | exc c e2 =>
        simp only [hgo] at p2
        exact p2
      | no => simp only [hgo] at p2; exact p2.elim
end
end Ly

set_option Elab.async false
set_option linter.all false
set_option maxRecDepth 100000
set_option maxHeartbeats 4000000
set_option autoImplicit false
namespace Ly
open PySem PySem.Spec L2

/-! ## a def as a plain function -/
inductive FR where
  | ret (d : PyData) (fin : Ev)
  | exc (c : Str) (fin : Ev)
  | no
abbrev FM := List O → FR
def ioOf (ks : List Nat) (vs : List V) : List (Nat × V) := ks.filterMap fun k => (vs[k]?).map fun v => (k, v)
structure Fin (K : PySem.W.Frag) (mg : MG) (G : Gd) (F : Hp) (fin : Ev) (H : Hp) : Prop where
  ex : ∃ Sf : Nat → Addr → Prop, (∀ p ∈ G.io, ∀ o, fin[p.1]? = some (some o) → Rep K mg F H (Sf p.1) p.2 o) ∧ (∀ i j a, Sf i a → Sf j a → i = j) ∧ ∀ i a, Sf i a → F a = none ∧ H a ≠ none ∧ G.S a
  sub : Same F H
  keep : ∀ a o, G.H0 a = some o → ¬ G.S0 a → H a = some o
  f0 : Same G.F0 F
  fs : ∀ a, F a ≠ none → G.F0 a ≠ none ∨ G.S a
theorem J.fin {K : PySem.W.Frag} {mg : MG} {G : Gd} {F : Hp} {env : Ev} {σ : St} {H : Hp} (j : J K mg G F env σ H) : Fin K mg G F env H := by
  obtain ⟨Sf, r⟩ := j.j0.ex
  refine ⟨⟨Sf, fun p hp o e => ?_, r.dis, r.bnd⟩, j.j0.sub, j.j0.keep, j.j0.f0, j.j0.fs⟩
  obtain ⟨v, h1, h2⟩ := r.row p.1 o e
  have h3 := j.io p hp
  rw [h1] at h3
  have e' : v = p.2 := by simpa using h3
  rw [← e']
  exact h2
def PostF (K : PySem.W.Frag) (mg : MG) (G : Gd) (Q : VK) (E : XK) : FR → Prop
  | .ret d fin => ∀ F' H' v, Fin K mg G F' fin H' → Fz K F' v d → Q v H'
  | .exc c fin => ∀ F' H' C, mg c = some (.ref C) → Fin K mg G F' fin H' → E (.ref C) none H'
  | .no => False
def spD (K : PySem.W.Frag) (mg : MG) (n : Nat) (ks : List Nat) (fn : FM) : Sp := fun vs H Q E => ∃ (F : Hp) (os : List O) (Sf : Nat → Addr → Prop), os.length = n ∧ vs.length = n ∧
  (∀ i o, os[i]? = some o → ∃ v, vs[i]? = some v ∧ Rep K mg F H (Sf i) v o) ∧ (∀ i j a, Sf i a → Sf j a → i = j) ∧ (∀ i a, Sf i a → F a = none ∧ H a ≠ none) ∧ Same F H ∧ PostF K mg ⟨F, H, fun a => ∃ i, Sf i a, ioOf ks vs⟩ Q E (fn os)
def bodyFn (N : Nat) (g : SM) : FM := fun os => match g (os.map some ++ List.replicate (N - os.length) none) with
  | .nx e => .ret .none e
  | .rt d e => .ret d e
  | .exc c e => .exc c e
  | _ => .no
theorem io_ks : ∀ {ks : List Nat} {vs : List V}, (∀ k ∈ ks, k < vs.length) → (ioOf ks vs).map (·.1) = ks
  | [], _, _ => rfl
  | k :: ks, vs, h => by
    have hlt : k < vs.length := h k List.mem_cons_self
    have hk : vs[k]? = some (vs[k]'hlt) := List.getElem?_eq_getElem hlt
    have e : ioOf (k :: ks) vs = (k, vs[k]'hlt) :: ioOf ks vs := by
      unfold ioOf
      rw [List.filterMap_cons, hk]
      rfl
    rw [e, List.map_cons, io_ks fun k' hk' => h k' (List.mem_cons_of_mem _ hk')]
theorem io_mem {ks : List Nat} {vs : List V} {p : Nat × V} (h : p ∈ ioOf ks vs) : vs[p.1]? = some p.2 := by
  unfold ioOf at h
  obtain ⟨k, hk, e⟩ := List.mem_filterMap.mp h
  cases hv : vs[k]? with
  | none => rw [hv] at e; cases e
  | some v =>
    rw [hv] at e
    cases e
    exact hv
section
variable {P : Program} {w : World} {K : PySem.W.Frag} {mg : MG} {base : Heap}
theorem start_get {N : List Str} {vs : List V} {i : Nat} {v : V} (h : vs[i]? = some v) : (L2.start N vs)[i]? = some (some v) := by
  have hi := (List.getElem?_eq_some_iff.mp h).1
  unfold L2.start
  rw [List.getElem?_append_left (by rw [List.length_map]; exact hi), List.getElem?_map, h]
  rfl
theorem fn_ok {x qual : Str} {st : Stmt} {f : Addr} {fd : FuncData} {N ps : List Str} {k : Nat} {g : SM} {ks : List Nat} (F : Fun K x qual st f fd) (S : FnScope N ps (defScope st)) (hks : ∀ k ∈ ks, k < ps.length)
    (hb : ∀ (cdv : Value) (A : Around) (outer : List Env) (s : Shared) (H : Hp) (E : XK), Room k (A.deeper (PyProof.Rows.envOfC qual (defScope st) s.heap.objs.size f cdv)) →
      DB (cxOf (L2.CX P w) P w K mg base N qual (defScope st) f cdv A outer s H E) (fun cls d _ H => E cls d H) ks (defBody st) g) : FnOk P w K mg base (L2.CX P w) (k + 1) f fd ps (spD K mg ps.length ks (bodyFn N.length g)) := by
  refine F.okX S (fun vs H Q E h => ?_) fun cdv A outer s H vs Q E hr h => ⟨_, hb cdv A outer s H E hr, ?_⟩
  · obtain ⟨F, os, Sf, h1, h2, _⟩ := h
    exact h2
  · obtain ⟨F, os, Sf, h1, h2, row, dis, bnd, sub, p⟩ := h
    have hpl : ps.length ≤ N.length := by
      have := congrArg List.length S.pre
      rw [List.length_take] at this
      omega
    refine ⟨⟨F, H, fun a => ∃ i, Sf i a, ioOf ks vs⟩, F, os.map some ++ List.replicate (N.length - os.length) none, io_ks (by rw [h2]; exact hks), ?_, ?_⟩
    · refine ⟨⟨?_, ⟨Sf, ?_, dis, fun i a q => ⟨(bnd i a q).1, (bnd i a q).2, .inr ⟨i, q⟩⟩⟩, sub, fun a o e _ => e, Same.refl F, fun a q => .inl q⟩, fun q hq => start_get (io_mem hq)⟩
      · unfold L2.start
        rw [List.length_append, List.length_map, List.length_replicate, List.length_append, List.length_map, List.length_replicate, h1, h2]
      · intro i o e
        by_cases hi : i < os.length
        · rw [List.getElem?_append_left (by rw [List.length_map]; exact hi), List.getElem?_map] at e
          cases ho : os[i]? with
          | none => rw [ho] at e; cases e
          | some o' =>
            rw [ho] at e
            cases e
            obtain ⟨v, q1, q2⟩ := row i _ ho
            exact ⟨v, start_get q1, q2⟩
        · rw [List.getElem?_append_right (by rw [List.length_map]; omega), List.getElem?_replicate] at e
          split at e <;> cases e
    · unfold bodyFn at p
      cases hg : g (os.map some ++ List.replicate (N.length - os.length) none) with
      | nx e =>
        rw [hg] at p
        exact fun F' σ' H' s' j => p F' H' .non j.fin .non
      | rt d e =>
        rw [hg] at p
        exact fun F' σ' H' v s' j f => p F' H' v j.fin f
      | bk e => rw [hg] at p; exact p.elim
      | ct e => rw [hg] at p; exact p.elim
      | exc c e =>
        rw [hg] at p
        exact fun F' σ' H' C hC s' j => p F' H' C hC j.fin
      | no => rw [hg] at p; exact p.elim
end

/-! ## a call of a def -/
def argsOf (e : Ev) : List Item → Option (List O)
  | [] => some []
  | .inl d :: r => (argsOf e r).map (O.fr d :: ·)
  | .inr i :: r => match e[i]? with
    | some (some o) => (argsOf e r).map (o :: ·)
    | _ => none
def ndIo : List Item → Bool
  | [] => true
  | .inl _ :: r => ndIo r
  | .inr i :: r => (r.all fun t => match t with
    | .inr k => !decide (k = i)
    | .inl _ => true) && ndIo r
def backA (ks : List Nat) (fin : Ev) : Nat → List Item → Ev → Ev
  | _, [], e => e
  | j, .inl _ :: r, e => backA ks fin (j + 1) r e
  | j, .inr i :: r, e => backA ks fin (j + 1) r (e.set i (if j ∈ ks then (fin[j]?).join else none))
def eCall (n : Nat) (ks : List Nat) (fn : FM) (m : AM) : EM := fun e => (m e).bind fun its e1 => match argsOf e1 its with
  | some os => if its.length = n ∧ ndIo its = true then (match fn os with
    | .ret d fin => .ok d (backA ks fin 0 its e1)
    | .exc c fin => .exc c (backA ks fin 0 its e1)
    | .no => .no) else .no
  | none => .no
theorem args_get : ∀ {its : List Item} {e : Ev} {os : List O}, argsOf e its = some os → os.length = its.length ∧ ∀ (j : Nat) (o : O), os[j]? = some o → (∃ d, its[j]? = some (.inl d) ∧ o = .fr d) ∨ ∃ i, its[j]? = some (.inr i) ∧ e[i]? = some (some o)
  | [], e, os, h => by cases h; exact ⟨rfl, fun j o q => by simp at q⟩
  | .inl d :: r, e, os, h => by
    unfold argsOf at h
    cases hr : argsOf e r with
    | none => rw [hr] at h; cases h
    | some os' =>
      rw [hr] at h
      cases h
      obtain ⟨l, g⟩ := args_get hr
      refine ⟨by rw [List.length_cons, List.length_cons, l], fun j o q => ?_⟩
      cases j with
      | zero =>
        simp at q
        exact .inl ⟨d, rfl, q.symm⟩
      | succ j => exact g j o (by simpa using q)
  | .inr i :: r, e, os, h => by
    unfold argsOf at h
    split at h
    · rename_i o ho
      cases hr : argsOf e r with
      | none => rw [hr] at h; cases h
      | some os' =>
        rw [hr] at h
        cases h
        obtain ⟨l, g⟩ := args_get hr
        refine ⟨by rw [List.length_cons, List.length_cons, l], fun j o' q => ?_⟩
        cases j with
        | zero =>
          simp at q
          subst q
          exact .inr ⟨i, rfl, ho⟩
        | succ j => exact g j o' (by simpa using q)
    · cases h
theorem nd_get : ∀ {its : List Item}, ndIo its = true → ∀ (j j' i : Nat), its[j]? = some (.inr i) → its[j']? = some (.inr i) → j = j'
  | [], _, j, _, _, e, _ => by simp at e
  | .inl d :: r, h, j, j', i, e1, e2 => by
    cases j with
    | zero => simp at e1
    | succ j =>
      cases j' with
      | zero => simp at e2
      | succ j' => rw [nd_get (its := r) h j j' i (by simpa using e1) (by simpa using e2)]
  | .inr k :: r, h, j, j', i, e1, e2 => by
    unfold ndIo at h
    rw [Bool.and_eq_true, List.all_eq_true] at h
    have no : ∀ j : Nat, r[j]? = some (Sum.inr k : Item) → False := fun j e => by
      have := h.1 _ (List.mem_of_getElem? e)
      simp at this
    cases j with
    | zero =>
      simp at e1
      subst e1
      cases j' with
      | zero => rfl
      | succ j' => exact (no j' (by simpa using e2)).elim
    | succ j =>
      cases j' with
      | zero =>
        simp at e2
        subst e2
        exact (no j (by simpa using e1)).elim
      | succ j' => rw [nd_get (its := r) h.2 j j' i (by simpa using e1) (by simpa using e2)]
theorem back_len {ks : List Nat} {fin : Ev} : ∀ {its : List Item} {j : Nat} {e : Ev}, (backA ks fin j its e).length = e.length
  | [], _, _ => rfl
  | .inl _ :: r, j, e => back_len (its := r)
  | .inr i :: r, j, e => by
    unfold backA
    rw [back_len (its := r), List.length_set]
theorem back_get {ks : List Nat} {fin : Ev} {k : Nat} {o : O} : ∀ {its : List Item} {j0 : Nat} {e : Ev}, (backA ks fin j0 its e)[k]? = some (some o) →
    (∃ j : Nat, its[j]? = some (Sum.inr k) ∧ (j0 + j) ∈ ks ∧ fin[j0 + j]? = some (some o)) ∨ ((∀ j : Nat, its[j]? ≠ some (Sum.inr k)) ∧ e[k]? = some (some o))
  | [], _, _, h => .inr ⟨fun j q => by simp at q, h⟩
  | .inl d :: r, j0, e, h => by
    rcases back_get (its := r) (j0 := j0 + 1) (e := e) h with ⟨j, h1, h2, h3⟩ | ⟨h1, h2⟩
    · exact .inl ⟨j + 1, by simpa using h1, by rw [← Nat.add_assoc, Nat.add_right_comm]; exact h2, by rw [← Nat.add_assoc, Nat.add_right_comm]; exact h3⟩
    · refine .inr ⟨fun j q => ?_, h2⟩
      cases j with
      | zero => simp at q
      | succ j => exact h1 j (by simpa using q)
  | .inr i :: r, j0, e, h => by
    unfold backA at h
    rcases back_get (its := r) (j0 := j0 + 1) h with ⟨j, h1, h2, h3⟩ | ⟨h1, h2⟩
    · exact .inl ⟨j + 1, by simpa using h1, by rw [← Nat.add_assoc, Nat.add_right_comm]; exact h2, by rw [← Nat.add_assoc, Nat.add_right_comm]; exact h3⟩
    · by_cases hk : i = k
      · subst hk
        left
        by_cases hi : i < e.length
        · rw [List.getElem?_set_self hi] at h2
          by_cases hks : j0 ∈ ks
          · rw [if_pos hks] at h2
            refine ⟨0, rfl, hks, ?_⟩
            have h3 : (fin[j0]?).join = some o := by simpa using h2
            cases hf : fin[j0]? with
            | none => rw [hf] at h3; cases h3
            | some x =>
              rw [hf] at h3
              have h4 : x = some o := h3
              rw [h4]
          · rw [if_neg hks] at h2
            cases h2
        · rw [List.getElem?_eq_none (by rw [List.length_set]; omega)] at h2
          cases h2
      · right
        rw [List.getElem?_set_ne hk] at h2
        refine ⟨fun j q => ?_, h2⟩
        cases j with
        | zero =>
          simp at q
          exact hk q
        | succ j => exact h1 j (by simpa using q)
theorem Itms.get {K : PySem.W.Frag} {F : Hp} {σ : St} : ∀ {vs : List V} {its : List Item} {j : Nat} {it : Item}, Itms K F σ vs its → its[j]? = some it → ∃ v, vs[j]? = some v ∧ (∀ d, it = .inl d → Fz K F v d) ∧ ∀ i, it = .inr i → σ[i]? = some (some v)
  | _, _, _, _, .nil, e => by simp at e
  | _, _, 0, it, .inl h _, e => by
    simp at e
    subst e
    exact ⟨_, rfl, ⟨(fun d q => by cases q; exact h), fun i q => (nomatch q)⟩⟩
  | _, _, 0, it, .inr h _, e => by
    simp at e
    subst e
    exact ⟨_, rfl, ⟨fun d q => (nomatch q), fun i q => by cases q; exact h⟩⟩
  | _, _, j + 1, it, .inl _ t, e => by
    obtain ⟨v, h1, h2⟩ := Itms.get (j := j) t (by simpa using e)
    exact ⟨v, by simpa using h1, h2⟩
  | _, _, j + 1, it, .inr _ t, e => by
    obtain ⟨v, h1, h2⟩ := Itms.get (j := j) t (by simpa using e)
    exact ⟨v, by simpa using h1, h2⟩
theorem Itms.length {K : PySem.W.Frag} {F : Hp} {σ : St} : ∀ {vs : List V} {its : List Item}, Itms K F σ vs its → vs.length = its.length
  | _, _, .nil => rfl
  | _, _, .inl _ t => by rw [List.length_cons, List.length_cons, Itms.length t]
  | _, _, .inr _ t => by rw [List.length_cons, List.length_cons, Itms.length t]
section
variable {X : Cx} {W : WX}
/-- what is wanted behind a call -/
def PostC (K : PySem.W.Frag) (mg : MG) (G : Gd) (F : Hp) (σ : St) (ks : List Nat) (its : List Item) (e1 : Ev) (Q : VK) (E : XK) : FR → Prop
  | .ret d fin => ∀ F' H' v, Same F F' → J K mg G F' (backA ks fin 0 its e1) σ H' → Fz K F' v d → Q v H'
  | .exc c fin => ∀ F' H' C, mg c = some (.ref C) → Same F F' → J K mg G F' (backA ks fin 0 its e1) σ H' → E (.ref C) none H'
  | .no => False
/-- the promise of a call whose arguments stand -/
theorem callCore {K : PySem.W.Frag} {mg : MG} {G : Gd} {F1 H1 : Hp} {e1 : Ev} {σ : St} {n : Nat} {ks : List Nat} {fn : FM} {its : List Item} {os : List O} {vs : List V} {Q : VK} {E : XK} (hks : ∀ k ∈ ks, k < n) (j1 : J K mg G F1 e1 σ H1) (iv : Itms K F1 σ vs its)
    (ha : argsOf e1 its = some os) (hn : its.length = n) (hnd : ndIo its = true) (hp : PostC K mg G F1 σ ks its e1 Q E (fn os)) : spD K mg n ks fn vs H1 Q E := by
  obtain ⟨al, ag⟩ := args_get ha
  obtain ⟨Sf, r⟩ := j1.j0.ex
  have nd := nd_get hnd
  have vl := iv.length
  refine ⟨F1, os, fun k a => ∃ i : Nat, its[k]? = some (Sum.inr i) ∧ Sf i a, al.trans hn, vl.trans hn, ?_, ?_, ?_, j1.sub, ?_⟩
  · intro i o e
    rcases ag i o e with ⟨d, h1, h2⟩ | ⟨k, h1, h2⟩
    · obtain ⟨v, q1, q2, _⟩ := iv.get h1
      subst h2
      exact ⟨v, q1, .fr (q2 d rfl)⟩
    · obtain ⟨v, q1, _, q2⟩ := iv.get h1
      obtain ⟨v', q3, q4⟩ := r.row k o h2
      have q5 := q2 k rfl
      rw [q3] at q5
      have e' : v' = v := by simpa using q5
      subst e'
      exact ⟨v', q1, q4.up fun b z => ⟨k, h1, z⟩⟩
  · rintro a b c ⟨i, q1, q2⟩ ⟨i', q3, q4⟩
    have e := r.dis i i' c q2 q4
    subst e
    exact nd a b i q1 q3
  · rintro a c ⟨i, q1, q2⟩
    exact ⟨(r.bnd i c q2).1, (r.bnd i c q2).2.1⟩
  · -- behind the call
    have back : ∀ F' H' fin, Fin K mg ⟨F1, H1, fun a => ∃ i, (fun (k : Nat) a => ∃ i : Nat, its[k]? = some (Sum.inr i) ∧ Sf i a) i a, ioOf ks vs⟩ F' fin H' → Same F1 F' ∧ J K mg G F' (backA ks fin 0 its e1) σ H' := by
      intro F' H' fin f
      obtain ⟨⟨Sc, c1, c2, c3⟩, c4, c5, c6, c7⟩ := f
      have out : ∀ k a, (∀ j : Nat, its[j]? ≠ some (Sum.inr k)) → Sf k a → ¬ ∃ i i' : Nat, its[i]? = some (Sum.inr i') ∧ Sf i' a := fun k a hk q ⟨i, i', q1, q2⟩ => by
        have e := r.dis _ _ a q q2
        subst e
        exact hk i q1
      have cS : ∀ a, (H1 a = none ∨ ∃ i i' : Nat, its[i]? = some (Sum.inr i') ∧ Sf i' a) → G.S a := fun a q => by
        rcases q with q | ⟨i, i', q1, q2⟩
        · exact (j1.j0.free q).2
        · exact (r.bnd i' a q2).2.2
      have sameK : ∀ k a, (∀ j : Nat, its[j]? ≠ some (Sum.inr k)) → Sf k a → ∀ o, H1 a = some o → H' a = some o := fun k a hk q o e => c5 a o e (out k a hk q)
      refine ⟨c6, ⟨⟨by rw [back_len]; exact j1.j0.len, ⟨fun k a => (∃ i : Nat, its[i]? = some (Sum.inr k) ∧ Sc i a) ∨ ((∀ i : Nat, its[i]? ≠ some (Sum.inr k)) ∧ Sf k a), ?_, ?_, ?_⟩, c4, ?_, fun a o e => c6 a o (j1.j0.f0 a o e), ?_⟩, j1.io⟩⟩
      · intro k o e
        rcases back_get e with ⟨i, h1, h2, h3⟩ | ⟨h1, h2⟩
        · rw [Nat.zero_add] at h2 h3
          obtain ⟨v, q1, _, q2⟩ := iv.get h1
          have hp : (i, v) ∈ ioOf ks vs := by
            unfold ioOf
            exact List.mem_filterMap.mpr ⟨i, h2, by rw [q1]; rfl⟩
          exact ⟨v, q2 k rfl, (c1 _ hp o h3).up fun b z => .inl ⟨i, h1, z⟩⟩
        · obtain ⟨v, q1, q2⟩ := r.row k o h2
          exact ⟨v, q1, (q2.frame c6 fun b u z w => sameK k b h1 z u w).up fun b z => .inr ⟨h1, z⟩⟩
      · intro k l a q1 q2
        rcases q1 with ⟨i, q1, q1'⟩ | ⟨q1, q1'⟩
        · rcases q2 with ⟨i', q2, q2'⟩ | ⟨q2, q2'⟩
          · have e := c2 _ _ a q1' q2'
            subst e
            rw [q1] at q2
            simpa using q2
          · exfalso
            rcases (c3 _ a q1').2.2 with z | z
            · exact (r.bnd l a q2').2.1 z
            · exact out l a q2 q2' z
        · rcases q2 with ⟨i', q2, q2'⟩ | ⟨q2, q2'⟩
          · exfalso
            rcases (c3 _ a q2').2.2 with z | z
            · exact (r.bnd k a q1').2.1 z
            · exact out k a q1 q1' z
          · exact r.dis _ _ a q1' q2'
      · intro k a q
        rcases q with ⟨i, q1, q2⟩ | ⟨q1, q2⟩
        · obtain ⟨z1, z2, z3⟩ := c3 i a q2
          exact ⟨z1, z2, cS a z3⟩
        · obtain ⟨z1, z2, z3⟩ := r.bnd k a q2
          refine ⟨?_, ?_, z3⟩
          · cases hF : F' a with
            | none => rfl
            | some u =>
              exfalso
              rcases c7 a (by rw [hF]; exact Option.some_ne_none _) with z | z
              · exact z z1
              · rcases z with z | z
                · exact z2 z
                · exact out k a q1 q2 z
          · cases hH : H1 a with
            | none => exact absurd hH z2
            | some u =>
              rw [sameK k a q1 q2 u hH]
              exact Option.some_ne_none _
      · intro a o e q
        have z := j1.j0.keep a o e q
        refine c5 a o z fun y => ?_
        rcases cS a (.inr y) with w | w
        · rw [e] at w; cases w
        · exact q w
      · intro a q
        rcases c7 a q with z | z
        · exact j1.j0.fs a z
        · exact .inr (cS a z)
    cases hf : fn os with
  | ret d fin =>
    rw [hf] at hp
    exact fun F' H' v f fz => hp F' H' v (back F' H' fin f).1 (back F' H' fin f).2 fz
  | exc c fin =>
    rw [hf] at hp
    exact fun F' H' C hC f => hp F' H' C hC (back F' H' fin f).1 (back F' H' fin f).2
  | no => rw [hf] at hp; exact hp.elim
/-- a call's reading, whatever its form: the arguments, then the promise -/
theorem canCall {n : Nat} {ks : List Nat} {fn : FM} {m : AM} (hks : ∀ k ∈ ks, k < n) (σ : St) (H : Hp) (Q : VK) (h : canE X W (eCall n ks fn m) σ H Q) : tCallS (spD X.K X.mg n ks fn) (WE W) (canA X W m) σ H Q := by
  obtain ⟨G, F, env, j, p⟩ := h
  refine ⟨G, F, env, j, p.bind.imp fun its F1 H1 s1 ⟨e1, j1, p2⟩ vs iv => ?_⟩
  cases ha : argsOf e1 its with
  | none => simp only [ha] at p2; exact p2.elim
  | some os =>
    simp only [ha] at p2
    by_cases hc : its.length = n ∧ ndIo its = true
    case neg =>
      rw [if_neg hc] at p2
      exact p2.elim
    rw [if_pos hc] at p2
    refine callCore hks j1 iv ha hc.1 hc.2 ?_
    cases hf : fn os with
    | ret d fin =>
      simp only [hf] at p2
      exact fun F' H' v s f fz => p2 F' H' s f v fz
    | exc c fin =>
      simp only [hf] at p2
      exact fun F' H' C hC s f => p2 F' H' C hC s f
    | no => simp only [hf] at p2; exact p2.elim
theorem d_call {k n : Nat} {f : Addr} {fd : FuncData} {ps : List Str} {ks : List Nat} {fn : FM} {x : Str} {p pos : Pos} {e : Expr} {es : List Expr} {m : AM} (F : FnOk X.prog X.w X.K X.mg X.base (L2.CX X.prog X.w) k f fd ps (spD X.K X.mg n ks fn)) (hr : Room k X.A) (tk : Takes X W)
    (hm : X.mg x = some (.ref f)) (hk : PySem.W.keepIn X.K (.ref f) = true) (hb : Binds X.K fd ps []) (ha : DA X W (e :: es) m) (hks : ∀ k ∈ ks, k < n := by decide) (hg : Gl X x := by rfl) (hdb : (x == ("__debug__" : Str)) = false := by decide)
    (he : starEach (e :: es) X.env = (false, eval e X.env) :: starEach es X.env := by rfl) (hpl : (backTo pos (starEach es X.env)).any (·.1) = false := by rfl) :
    DE X W (.Call (.Name x p) (e :: es) [] pos) (eCall n ks fn m) := weakE (pe_callS F hr hg hm hk hb (fun σ => passAt tk σ) ha hdb he hpl) (canCall hks)
end

/-! ## raise, try -/
def sRaise (c : Str) : SM := fun e => .exc c e
def hdl (sub : Str → Str → Option Bool) (c : Str) : List (Str × SM) → SM
  | [], e => .exc c e
  | (h, s) :: r, e => match sub c h with
    | some true => (match s e with
      | .exc _ _ => .no
      | .nx e1 => .nx e1
      | .rt d e1 => .rt d e1
      | .bk e1 => .bk e1
      | .ct e1 => .ct e1
      | .no => .no)
    | some false => hdl sub c r e
    | none => .no
def sTry (sub : Str → Str → Option Bool) (g : SM) (hs : List (Str × SM)) : SM := fun e => match g e with
  | .exc c e1 => hdl sub c hs e1
  | .nx e1 => .nx e1
  | .rt d e1 => .rt d e1
  | .bk e1 => .bk e1
  | .ct e1 => .ct e1
  | .no => .no
abbrev WF : WX := fun _ _ _ _ => False
section
variable {X : Cx} {W : WX} {ks : List Nat} {g : SM} {pos : Pos}
theorem s_raise {e : Expr} {c : Str} {C : Addr} (hc : X.calm = true) (tk : Takes X W) (hm : X.mg c = some (.ref C)) (he : PMk X e (fun _ H Q => Q (.ref C) none H)) : DS X W ks (.Raise (some e) none pos) (sRaise c) :=
  weakS (ps_raise hc tk he) fun D σ H ⟨G, F, env, hk, j, p⟩ => p F σ H C hm (Same.refl F) j
theorem h_nil : HdsOk X [] [] := .nil
theorem hdl_ok {G : Gd} {F : Hp} {D : Ends} {σ : St} {H : Hp} {c : Str} {C : Addr} {e1 : Ev} {sub : Str → Str → Option Bool} (hsub : ∀ c h b C, sub c h = some b → X.mg c = some (.ref C) → PySem.W.exmOne X.K (.ref C) ((X.mg h).getD .none) = some b) (hk : G.io.map (·.1) = ks) (hC : X.mg c = some (.ref C)) :
    ∀ {hs : List (Str × SM)}, PostS X W G F D (hdl sub c hs e1) → J X.K X.mg G F e1 σ H → wMany X.K W D (hs.map fun p => ((X.mg p.1).getD .none, fun _ _ _ => canS X WF ks p.2)) (.ref C) none σ H
  | [], p, j => p F σ H C hC (Same.refl F) j
  | (h, s) :: r, p', j => by
    unfold hdl at p'
    cases hq : sub c h with
    | none => simp only [hq] at p'; exact p'.elim
    | some b =>
      simp only [hq] at p'
      refine ⟨b, hsub c h b C hq hC, fun hb1 a _ => ?_, fun hb1 => ?_⟩
      · subst hb1
        simp only at p'
        refine ⟨G, F, e1, hk, j, ?_⟩
        show PostS X WF G F D (s e1)
        cases hse : s e1 with
        | nx e2 => simp only [hse] at p'; exact p'
        | rt d e2 => simp only [hse] at p'; exact p'
        | bk e2 => simp only [hse] at p'; exact p'
        | ct e2 => simp only [hse] at p'; exact p'
        | exc c2 e2 => simp only [hse] at p'; exact p'.elim
        | no => simp only [hse] at p'; exact p'.elim
      · subst hb1
        simp only at p'
        exact hdl_ok hsub hk hC p' j
theorem s_try {body : List Stmt} {h₀ : ExceptHandler} {hds : List ExceptHandler} {hs : List (Str × SM)} {sub : Str → Str → Option Bool} (tk : Takes X W)
    (hb : ∀ (W : WX) (pn : List (Addr × Obj)) (xe : Value → Shared → Prop), Takes (X.tr pn xe) W → PassesOwn (model X.prog X.w) X.A X.env xe → DB (X.tr pn xe) W ks body g)
    (hsub : ∀ c h b C, sub c h = some b → X.mg c = some (.ref C) → PySem.W.exmOne X.K (.ref C) ((X.mg h).getD .none) = some b)
    (hh : HdsOk X (h₀ :: hds) (hs.map fun p => ((X.mg p.1).getD .none, fun _ _ _ => canS X WF ks p.2))) (hst : X.stack = X.env :: X.outer := by rfl) (hf : X.env.frame = some X.env.locals := by rfl) :
    DS X W ks (.Try body (h₀ :: hds) [] [] pos) (sTry sub g hs) := by
  refine weakS (ps_try_many (tb := fun W' => canS X W' ks g) hst hf tk hb hh) fun D σ H ⟨G, F, env, hk, j, p⟩ => ?_
  refine ⟨G, F, env, hk, j, ?_⟩
  unfold sTry at p
  cases hg : g env with
  | nx e1 => rw [hg] at p; exact p
  | rt d e1 => rw [hg] at p; exact p
  | bk e1 => rw [hg] at p; exact p
  | ct e1 => rw [hg] at p; exact p
  | no => rw [hg] at p; exact p
  | exc c e1 =>
    rw [hg] at p
    exact fun F' σ' H' C hC s' j' => hdl_ok hsub hk hC (PostS.mono p s') j'
theorem h_cons {x : Str} {c : Value} {b₀ : Stmt} {suite : List Stmt} {np pos' : Pos} {hds : List ExceptHandler} {l : List (Value × (Addr → Value → Option Addr → TS))} {s : SM} (hm : X.mg x = some c) (hsu : ∀ (a : Addr) (pn : List (Addr × Obj)), DB (X.suite a pn) WF ks (b₀ :: suite) s) (r : HdsOk X hds l) (hg : Gl X x := by rfl) (hd : (x == ("__debug__" : Str)) = false := by decide) :
    HdsOk X (.ExceptHandler (some (.Name x np)) none (b₀ :: suite) pos' :: hds) (((X.mg x).getD .none, fun _ _ _ => canS X WF ks s) :: l) := by
  have e : (X.mg x).getD .none = c := by rw [hm]; rfl
  rw [e]
  exact .cons ⟨hg, hd, .inl hm⟩ (fun a oe cls d pn _ _ => hsu a ((a, oe) :: pn)) r
end

/-! ## lists that are owned -/
theorem rep_new {K : PySem.W.Frag} {mg : MG} {F H : Hp} {p : Addr} {vs : List V} {ds : List PyData} (f : FzL K F vs ds) : Rep K mg F (upd H p (.lst vs)) (fun b => b = p) (.ref p) (.nd .lst (ds.map .fr)) := by
  refine .nd (N := fun b => b = p) (Sf := fun _ _ => False) ⟨upd_same, fun b => Iff.rfl⟩ (fun b h => h) (by rw [List.length_map]; exact f.length) (fun j v o e1 e2 => ?_) (fun _ _ _ h => h.elim) (fun _ _ h => h.elim)
  rw [List.getElem?_map] at e2
  cases hd : ds[j]? with
  | none => rw [hd] at e2; cases e2
  | some d =>
    rw [hd] at e2
    cases e2
    obtain ⟨v', h1, h2⟩ := f.get hd
    rw [e1] at h1
    cases h1
    exact .fr h2
def sStL (i : Nat) (l : LM) : SM := fun e => (l e).out fun ds e1 => if ds.length ≤ sz then .nx (e1.set i (some (.nd .lst (ds.map .fr)))) else .no
def lstAt (e : Ev) (i : Nat) : Option (List O) := match e[i]? with
  | some (some (.nd .lst xs)) => some xs
  | _ => none
def oneD : List PyData → Option PyData
  | [d] => some d
  | _ => none
def intD : PyData → Option Int
  | .int i => some i
  | _ => none
def frD : Option O → Option PyData
  | some (.fr d) => some d
  | _ => none
theorem lstAt_some {e : Ev} {i : Nat} {xs : List O} (h : lstAt e i = some xs) : e[i]? = some (some (.nd .lst xs)) := by
  unfold lstAt at h
  split at h
  · rename_i q
    cases h
    exact q
  · cases h
theorem oneD_some {ds : List PyData} {d : PyData} (h : oneD ds = some d) : ds = [d] := by
  unfold oneD at h
  split at h
  · cases h; rfl
  · cases h
theorem intD_some {d : PyData} {i : Int} (h : intD d = some i) : d = .int i := by
  cases d <;> cases h
  rfl
theorem frD_some {o : Option O} {d : PyData} (h : frD o = some d) : o = some (.fr d) := by
  unfold frD at h
  split at h
  · cases h; rfl
  · cases h
def sApp (i : Nat) (l : LM) : SM := fun e => match lstAt e i with
  | some _ => (l e).out fun ds e1 => (match oneD ds with
    | some d => (match lstAt e1 i with
      | some xs => if xs.length < sz then .nx (e1.set i (some (.nd .lst (xs ++ [.fr d])))) else .no
      | none => .no)
    | none => .no)
  | none => .no
def sSix (i : Nat) (fi fv : EM) : SM := fun e => (fv e).out fun d e1 => match lstAt e1 i with
  | some _ => (fi e1).out fun k e2 => (match intD k with
    | some z => (match lstAt e2 i with
      | some xs => (match ixN xs.length z with
        | some j => .nx (e2.set i (some (.nd .lst (xs.set j (.fr d)))))
        | none => .no)
      | none => .no)
    | none => .no)
  | none => .no
def eIxO (i : Nat) (f : EM) : EM := fun e => match lstAt e i with
  | some _ => (f e).bind fun k e1 => (match intD k with
    | some z => (match lstAt e1 i with
      | some xs => lift (frD (atI xs z)) e1
      | none => .no)
    | none => .no)
  | none => .no
def eLenO (i : Nat) : EM := fun e => match lstAt e i with
  | some xs => .ok (.int xs.length) e
  | none => .no
section
variable {K : PySem.W.Frag} {mg : MG} {F H : Hp} {S : Addr → Prop}
theorem Rep.lst {v : V} {xs : List O} (h : Rep K mg F H S v (.nd .lst xs)) : ∃ (a : Addr) (vs : List V) (Sf : Nat → Addr → Prop), v = .ref a ∧ H a = some (.lst vs) ∧ S a ∧ vs.length = xs.length ∧ (∀ (j : Nat) (v : V) (o : O), vs[j]? = some v → xs[j]? = some o → Rep K mg F H (Sf j) v o) ∧ (∀ i j b, Sf i b → Sf j b → i = j) ∧ ∀ j b, Sf j b → S b ∧ b ≠ a := by
  cases h with
  | @nd _ N Sf a _ vs _ h1 h2 h3 h4 h5 h6 =>
    exact ⟨a, vs, Sf, rfl, h1.1, h2 _ ((h1.2 a).mpr rfl), h3, h4, h5, fun j b q => ⟨(h6 j b q).1, fun z => (h6 j b q).2 ((h1.2 b).mpr z)⟩⟩
theorem Rep.lst_mk {a : Addr} {vs : List V} {xs : List O} {Sf : Nat → Addr → Prop} (h1 : H a = some (.lst vs)) (h2 : S a) (h3 : vs.length = xs.length) (h4 : ∀ (j : Nat) (v : V) (o : O), vs[j]? = some v → xs[j]? = some o → Rep K mg F H (Sf j) v o) (h5 : ∀ i j b, Sf i b → Sf j b → i = j) (h6 : ∀ j b, Sf j b → S b ∧ b ≠ a) :
    Rep K mg F H S (.ref a) (.nd .lst xs) := .nd (N := fun b => b = a) ⟨h1, fun b => Iff.rfl⟩ (fun b h => by rw [h]; exact h2) h3 h4 h5 h6
/-- a list's items turned into others by place -/
theorem Rep.lst_upd {a : Addr} {xs ys : List O} {vs' : List V} (h : Rep K mg F H S (.ref a) (.nd .lst xs)) (hl : vs'.length = ys.length)
    (k : ∀ vs, H a = some (.lst vs) → vs.length = xs.length → ∀ (j : Nat) (v : V) (o : O), vs'[j]? = some v → ys[j]? = some o → (vs[j]? = some v ∧ xs[j]? = some o) ∨ ∃ d, o = .fr d ∧ Fz K F v d) : Rep K mg F (upd H a (.lst vs')) S (.ref a) (.nd .lst ys) := by
  obtain ⟨b, vs, Sf, e, h1, h2, h3, h4, h5, h6⟩ := h.lst
  cases e
  refine .lst_mk upd_same h2 hl (fun j v o e1 e2 => ?_) h5 h6
  rcases k vs h1 h3 j v o e1 e2 with ⟨q1, q2⟩ | ⟨d, rfl, q⟩
  · exact (h4 j v o q1 q2).frame (Same.refl F) fun b u z w => by rw [upd_ne (h6 j b z).2]; exact w
  · exact .fr q
end
section
variable {X : Cx} {W : WX} {ks : List Nat} {pos : Pos}
theorem s_setL (i : Nat) {x : Str} {pos' p2 : Pos} {es : List Expr} {l : LM} (hN : X.N.Nodup) (ha : DL X W es l) (hi : X.N[i]? = some x := by rfl) (hx : Loc X.env.scope x := by first | exact Or.inl rfl | exact Or.inr rfl) (hks : i ∉ ks := by decide)
    (hs : swapsWith (.List es p2) (some (.Name x pos')) pos.line X.env = pure false := by rfl) (hf : X.fn x = true ∨ X.env.scope.names.lookup x = some .local := by first | exact .inl rfl | exact .inr rfl) : DS X W ks (.Assign [.Name x pos'] (.List es p2) pos) (sStL i l) := by
  refine weakS (ps_set hN hi hx (pe_lst ha) hs hf) fun D σ H ⟨G, F, env, hk, j, p⟩ => ?_
  refine ⟨G, F, env, j, (PostS.out p).imp fun ds F1 H1 s1 ⟨e1, j1, p2⟩ vs fv => ?_⟩
  split at p2
  · rename_i hl
    refine ⟨by rw [fv.length, sz_eq]; exact hl, fun q hq => ?_⟩
    exact p2 F1 _ _ (Same.refl F1) (j1.newO hq _ (rep_new fv) (by rw [hk]; exact hks))
  · exact p2.elim
theorem s_app (i : Nat) {x : Str} {np apos cpos : Pos} {e : Expr} {l : LM} (ha : DL X W [e] l) (hN : X.N[i]? = some x := by rfl) (hv : Vis X.env.scope x := by first | exact Or.inl rfl | exact Or.inr (Or.inl rfl) | exact Or.inr (Or.inr rfl)) (hd : (x == ("__debug__" : Str)) = false := by decide) (hcd : (x == ("__classdict__" : Str)) = false := by decide)
    (hbase : attributeBase (.Name x np) "append" X.env (eval (.Name x np) X.env) = eval (.Name x np) X.env := by rfl)
    (hfew : ((backTo cpos (starEach [e] X.env)).all (fun x => !x.1) && (backToKw cpos (keywordEach [] X.env)).all (fun x => x.1.isSome) && decide (([e] : List Expr).length + ([] : List Keyword).length + (if ([] : List Keyword).isEmpty then 0 else 1) < 30)) = true := by rfl)
    (hline : (apos.endLine == cpos.line) = true := by rfl) (hst : starEach [e] X.env = (false, eval e X.env) :: starEach [] X.env := by rfl) (hplain : (backTo cpos (starEach [] X.env)).any (·.1) = false := by rfl)
    (hs : swapsWith (.Call (.Attribute (.Name x np) "append" apos) [e] [] cpos) none pos.line X.env = pure false := by rfl) :
    DS X W ks (.Expr (.Call (.Attribute (.Name x np) "append" apos) [e] [] cpos) pos) (sApp i l) := by
  refine weakS (ps_expr (pe_bm PySem.F.plainAttrs_list PySem.F.slot_list_append PySem.F.type_list_append mt_append (pe_var hN hv hd hcd) ha hbase hfew hline hst hplain) hs) fun D σ H ⟨G, F, env, hk, j, p⟩ => ?_
  unfold sApp at p
  cases he : lstAt env i with
  | none => simp only [he] at p; exact p.elim
  | some xs0 =>
    simp only [he] at p
    have he := lstAt_some he
    obtain ⟨S, v, h1, h2, _⟩ := j.row he
    obtain ⟨a, vs0, Sf, rfl, h3, _⟩ := h2.lst
    refine ⟨.ref a, h1, .inl ⟨rfl, vs0, SqL.of h3⟩, G, F, env, j, (PostS.out p).imp fun ds F1 H1 s1 ⟨e1, j1, p2⟩ ws fw => ?_⟩
    cases hd : oneD ds with
    | none => simp only [hd] at p2; exact p2.elim
    | some d =>
      simp only [hd] at p2
      cases he1 : lstAt e1 i with
      | none => simp only [he1] at p2; exact p2.elim
      | some xs =>
        simp only [he1] at p2
        have he1 := lstAt_some he1
        have hd := oneD_some hd
        subst hd
        by_cases hl : xs.length < sz
        case neg =>
          rw [if_neg hl] at p2
          exact p2.elim
        rw [if_pos hl] at p2
        cases fw with
        | @cons w _ _ _ fd fn =>
          cases fn
          obtain ⟨S2, v2, q1, q2, _⟩ := j1.row he1
          rw [h1] at q1
          have e' : V.ref a = v2 := by simpa using q1
          subst e'
          obtain ⟨b, vs, Sf2, eb, q3, q4, q5, _⟩ := q2.lst
          cases eb
          refine ⟨a, vs, w, rfl, rfl, q3, by rw [q5, sz_eq]; exact hl, p2 F1 σ _ (Same.refl F1) (j1.put he1 h1 fun S3 q6 => ?_)⟩
          obtain ⟨b, vs3, Sf3, eb, z3, z4, _⟩ := q6.lst
          cases eb
          refine ⟨z4, q6.lst_upd (by rw [List.length_append, List.length_append, q5]; rfl) fun vs4 y1 y2 i v o w1 w2 => ?_⟩
          rw [q3] at y1
          cases y1
          by_cases hi : i < vs.length
          · rw [List.getElem?_append_left hi] at w1
            rw [List.getElem?_append_left (by rw [← q5]; exact hi)] at w2
            exact .inl ⟨w1, w2⟩
          · have hi2 : i = vs.length := by
              have := (List.getElem?_eq_some_iff.mp w1).1
              rw [List.length_append, List.length_singleton] at this
              omega
            subst hi2
            rw [List.getElem?_append_right (Nat.le_refl _), Nat.sub_self] at w1
            rw [q5, List.getElem?_append_right (Nat.le_refl _), Nat.sub_self] at w2
            have e1 : w = v := by simpa using w1
            have e2 : O.fr d = o := by simpa using w2
            rw [← e1, ← e2]
            exact .inr ⟨d, rfl, fd⟩
theorem s_six (i : Nat) {x : Str} {np tpos : Pos} {ix e : Expr} {fi fv : EM} (ha : DE X W e fv) (hx : DE X W ix fi) (hN : X.N[i]? = some x := by rfl) (hv : Vis X.env.scope x := by first | exact Or.inl rfl | exact Or.inr (Or.inl rfl) | exact Or.inr (Or.inr rfl)) (hd : (x == ("__debug__" : Str)) = false := by decide) (hcd : (x == ("__classdict__" : Str)) = false := by decide)
    (hg : ∀ v, assign (.Subscript (.Name x np) ix tpos) X.env v = (do
      let ov ← holding [v] (eval (.Name x np) X.env)
      let iv ← holding [v, ov] (eval ix X.env)
      standAt tpos
      holding [v, ov, iv] (setItem ov iv v)
      release [v, ov, iv] []) := by intro _; rfl)
    (hs : swapsWithSole [.Subscript (.Name x np) ix tpos] e pos.line X.env = pure false := by rfl) (hw : swappedStores [.Subscript (.Name x np) ix tpos] e X.env = pure none := by rfl)
    (h1 : (assignEach [.Subscript (.Name x np) ix tpos] X.env).map (·.2) = [assign (.Subscript (.Name x np) ix tpos) X.env] := by rfl) : DS X W ks (.Assign [.Subscript (.Name x np) ix tpos] e pos) (sSix i fi fv) := by
  refine weakS (ps_asg ha (pg_sub (pe_var hN hv hd hcd) hx set_list hg) hs hw h1) fun D σ H ⟨G, F, env, hk, j, p⟩ => ?_
  refine ⟨G, F, env, j, (PostS.out p).imp fun d F1 H1 s1 ⟨e1, j1, p2⟩ y fy => ?_⟩
  cases he : lstAt e1 i with
  | none => simp only [he] at p2; exact p2.elim
  | some xs0 =>
    simp only [he] at p2
    have he := lstAt_some he
    obtain ⟨S, v, h1, h2, _⟩ := j1.row he
    refine ⟨v, h1, G, F1, e1, j1, (PostS.out p2).imp fun k F2 H2 s2 ⟨e2, j2, p3⟩ z fz => ?_⟩
    cases hz : intD k with
    | none => simp only [hz] at p3; exact p3.elim
    | some n =>
      simp only [hz] at p3
      cases he2 : lstAt e2 i with
      | none => simp only [he2] at p3; exact p3.elim
      | some xs =>
        simp only [he2] at p3
        have he2 := lstAt_some he2
        have hz := intD_some hz
        subst hz
        cases hm : ixN xs.length n with
        | none => simp only [hm] at p3; exact p3.elim
        | some m =>
          simp only [hm] at p3
          cases fz
          obtain ⟨S2, v2, q1, q2, _⟩ := j2.row he2
          rw [h1] at q1
          have e' : v = v2 := by simpa using q1
          subst e'
          obtain ⟨a, vs, Sf2, rfl, q3, q4, q5, _⟩ := q2.lst
          refine ⟨a, vs, n, m, rfl, rfl, q3, by rw [q5]; exact hm, p3 F2 σ _ (Same.refl F2) (j2.put he2 h1 fun S3 q6 => ?_)⟩
          obtain ⟨b, vs3, Sf3, eb, z3, z4, _⟩ := q6.lst
          cases eb
          refine ⟨z4, q6.lst_upd (by rw [List.length_set, List.length_set, q5]) fun vs4 y1 y2 i v o w1 w2 => ?_⟩
          rw [q3] at y1
          cases y1
          by_cases hi : m = i
          · subst hi
            by_cases hlt : m < vs.length
            · rw [List.getElem?_set_self hlt] at w1
              rw [List.getElem?_set_self (by rw [← q5]; exact hlt)] at w2
              have e1 : y = v := by simpa using w1
              have e2 : O.fr d = o := by simpa using w2
              rw [← e1, ← e2]
              exact .inr ⟨d, rfl, fy.mono s2⟩
            · rw [List.getElem?_eq_none (by rw [List.length_set]; omega)] at w1
              cases w1
          · rw [List.getElem?_set_ne hi] at w1 w2
            exact .inl ⟨w1, w2⟩
theorem at_pair {α β : Type} {xs : List α} {ys : List β} (h : xs.length = ys.length) {z : Int} {x : α} (e : atI xs z = some x) : ∃ (j : Nat) (y : β), xs[j]? = some x ∧ ys[j]? = some y ∧ atI ys z = some y := by
  unfold atI at e ⊢
  rw [← h]
  cases hi : ixN xs.length z with
  | none => rw [hi] at e; cases e
  | some j =>
    rw [hi] at e
    have e' : xs[j]? = some x := e
    have hj := (List.getElem?_eq_some_iff.mp e').1
    exact ⟨j, ys[j]'(by omega), e', List.getElem?_eq_getElem (by omega), List.getElem?_eq_getElem (by omega)⟩
theorem d_ixO (i : Nat) {x : Str} {np : Pos} {ix : Expr} {fi : EM} (hx : DE X W ix fi) (hN : X.N[i]? = some x := by rfl) (hv : Vis X.env.scope x := by first | exact Or.inl rfl | exact Or.inr (Or.inl rfl) | exact Or.inr (Or.inr rfl)) (hd : (x == ("__debug__" : Str)) = false := by decide) (hcd : (x == ("__classdict__" : Str)) = false := by decide)
    (hp : PlainIx ix := by exact fun _ _ => rfl) : DE X W (.Subscript (.Name x np) ix pos) (eIxO i fi) := by
  refine weakE (pe_ix ix_list (pe_var hN hv hd hcd) hx hp) fun σ H Q ⟨G, F, env, j, p⟩ => ?_
  unfold eIxO at p
  cases he : lstAt env i with
  | none => simp only [he] at p; exact p.elim
  | some xs0 =>
    simp only [he] at p
    have he := lstAt_some he
    obtain ⟨S, v, h1, h2, _⟩ := j.row he
    refine ⟨v, h1, G, F, env, j, (PostR.bind p).imp fun k F2 H2 s2 ⟨e2, j2, p3⟩ z fz => ?_⟩
    cases hz : intD k with
    | none => simp only [hz] at p3; exact p3.elim
    | some n =>
      simp only [hz] at p3
      cases he2 : lstAt e2 i with
      | none => simp only [he2] at p3; exact p3.elim
      | some xs =>
        simp only [he2] at p3
        have he2 := lstAt_some he2
        have hz := intD_some hz
        subst hz
        cases hf : frD (atI xs n) with
        | none => rw [hf] at p3; exact p3.elim
        | some d =>
          rw [hf] at p3
          have hat := frD_some hf
          cases fz
          obtain ⟨S2, v2, q1, q2, _⟩ := j2.row he2
          rw [h1] at q1
          have e' : v = v2 := by simpa using q1
          subst e'
          obtain ⟨a, vs, Sf2, rfl, q3, q4, q5, q6, _⟩ := q2.lst
          obtain ⟨m, y, w1, w2, w3⟩ := at_pair q5.symm hat
          have q7 := q6 m y _ w2 w1
          cases q7 with
          | fr q8 => exact ⟨a, vs, n, y, rfl, rfl, SqL.of q3, w3, p3 F2 H2 (Same.refl F2) j2 y q8⟩
theorem d_lenO (i : Nat) {x : Str} {np p : Pos} (hm : X.mg "len" = none) (hN : X.N[i]? = some x := by rfl) (hv : Vis X.env.scope x := by first | exact Or.inl rfl | exact Or.inr (Or.inl rfl) | exact Or.inr (Or.inr rfl)) (hd : (x == ("__debug__" : Str)) = false := by decide) (hcd : (x == ("__classdict__" : Str)) = false := by decide) (hg : Gl X "len" := by rfl)
    (he : starEach (Expr.Name x np :: []) X.env = (false, eval (.Name x np) X.env) :: starEach [] X.env := by rfl) (hpl : (backTo pos (starEach [] X.env)).any (·.1) = false := by rfl) : DE X W (.Call (.Name "len" p) [.Name x np] [] pos) (eLenO i) := by
  refine weakE (pe_callB call_len_seq hg hm PySem.boot_len (pa_cons (pe_var hN hv hd hcd) pa_nil) (by decide) (by decide) he hpl) fun σ H Q ⟨G, F, env, j, h⟩ => ?_
  unfold eLenO at h
  cases he : lstAt env i with
  | none => simp only [he] at h; exact h.elim
  | some xs =>
    simp only [he] at h
    have he := lstAt_some he
    obtain ⟨S, v, h1, h2, _⟩ := j.row he
    obtain ⟨a, vs, Sf, rfl, h3, _, h5, _⟩ := h2.lst
    refine ⟨.ref a, h1, a, vs, rfl, .inl (SqL.of h3), ?_⟩
    rw [h5]
    exact h F H (Same.refl F) j _ (.int _)
end
end Ly

set_option Elab.async false
set_option linter.all false
set_option maxRecDepth 100000
set_option maxHeartbeats 4000000
set_option autoImplicit false
namespace Ly
open PySem PySem.Spec L2

/-! ## comprehensions -/
section
variable {K : PySem.W.Frag} {mg : MG} {G : Gd} {F : Hp} {env : Ev} {σ : St} {H : Hp}
/-- the last row is out of reach for what runs over the others alone -/
theorem J0.protect {o : O} {v : V} (j : J0 K mg G F (env ++ [some o]) (σ ++ [some v]) H) : ∃ G' : Gd, G'.io = [] ∧ J0 K mg G' F env σ H ∧
    ∀ F' env' σ' H', Same F F' → σ'.length = σ.length → J0 K mg G' F' env' σ' H' → J0 K mg G F' (env' ++ [some o]) (σ' ++ [some v]) H' := by
  obtain ⟨Sf, r⟩ := j.ex
  have hl : env.length = σ.length := by
    have := j.len
    rw [List.length_append, List.length_append, List.length_singleton, List.length_singleton] at this
    omega
  obtain ⟨v', q1, q2⟩ := r.row env.length o (by rw [List.getElem?_append_right (Nat.le_refl _), Nat.sub_self]; rfl)
  rw [hl, List.getElem?_append_right (Nat.le_refl _), Nat.sub_self] at q1
  have e' : v = v' := by simpa using q1
  subst e'
  refine ⟨⟨F, H, fun a => ∃ i, i < env.length ∧ Sf i a, []⟩, rfl, ?_, ?_⟩
  · refine ⟨hl, ⟨fun i a => i < env.length ∧ Sf i a, ?_, fun i k a h1 h2 => r.dis i k a h1.2 h2.2, fun i a h => ⟨(r.bnd i a h.2).1, (r.bnd i a h.2).2.1, .inr ⟨i, h⟩⟩⟩, j.sub, fun a o e _ => e, Same.refl F, fun a h => .inl h⟩
    intro i o' e
    have hi := (List.getElem?_eq_some_iff.mp e).1
    obtain ⟨v', h1, h2⟩ := r.row i o' (by rw [List.getElem?_append_left hi]; exact e)
    rw [List.getElem?_append_left (by rw [← hl]; exact hi)] at h1
    exact ⟨v', h1, h2.up fun b z => ⟨hi, z⟩⟩
  · intro F' env' σ' H' s hs j'
    obtain ⟨Sg, r'⟩ := j'.ex
    have hl' : env'.length = env.length := by rw [j'.len, hs, ← hl]
    -- what the last row holds stands as it stood
    have nS : ∀ a, Sf env.length a → ¬ ∃ i, i < env.length ∧ Sf i a := fun a h ⟨i, hi, q⟩ => by
      have := r.dis _ _ a h q
      omega
    have kp : ∀ a o, Sf env.length a → H a = some o → H' a = some o := fun a o h e => j'.keep a o e (nS a h)
    have nF : ∀ a, Sf env.length a → F' a = none := fun a h => by
      cases hF : F' a with
      | none => rfl
      | some u =>
        exfalso
        rcases j'.fs a (by rw [hF]; exact Option.some_ne_none _) with z | z
        · exact z (r.bnd _ a h).1
        · rcases z with z | z
          · exact (r.bnd _ a h).2.1 z
          · exact nS a h z
    have gS : ∀ a, (Gd.S ⟨F, H, fun a => ∃ i, i < env.length ∧ Sf i a, []⟩ a) → G.S a := fun a z => by
      rcases z with z | ⟨i, _, z⟩
      · exact (j.free z).2
      · exact (r.bnd i a z).2.2
    have apart : ∀ i a, Sg i a → ¬ Sf env.length a := fun i a h q => by
      rcases (r'.bnd i a h).2.2 with z | z
      · exact (r.bnd _ a q).2.1 z
      · exact nS a q z
    refine ⟨by rw [List.length_append, List.length_append, j'.len]; rfl, ⟨fun i a => if i = env.length then Sf env.length a else Sg i a, ?_, ?_, ?_⟩, j'.sub, ?_, fun a o e => j'.f0 a o (j.f0 a o e), ?_⟩
    · intro i o' e
      by_cases hi : i = env.length
      · subst hi
        rw [List.getElem?_append_right (by omega), hl', Nat.sub_self] at e
        have e2 : o = o' := by simpa using e
        subst e2
        refine ⟨v, ?_, (q2.frame s fun b u z w => kp b u z w).up fun b z => by rw [if_pos rfl]; exact z⟩
        rw [List.getElem?_append_right (by omega), hs, ← hl, Nat.sub_self]
        rfl
      · have hlt : i < env'.length := by
          have := (List.getElem?_eq_some_iff.mp e).1
          rw [List.length_append, List.length_singleton] at this
          omega
        rw [List.getElem?_append_left hlt] at e
        obtain ⟨v', h1, h2⟩ := r'.row i o' e
        exact ⟨v', by rw [List.getElem?_append_left (by rw [hs, ← hl, ← hl']; exact hlt)]; exact h1, h2.up fun b z => by rw [if_neg hi]; exact z⟩
    · intro i k a h1 h2
      try dsimp only at h1 h2
      by_cases hi : i = env.length
      · by_cases hk : k = env.length
        · rw [hi, hk]
        · rw [if_pos hi] at h1
          rw [if_neg hk] at h2
          exact absurd h1 (apart k a h2)
      · rw [if_neg hi] at h1
        by_cases hk : k = env.length
        · rw [if_pos hk] at h2
          exact absurd h2 (apart i a h1)
        · rw [if_neg hk] at h2
          exact r'.dis i k a h1 h2
    · intro i a h1
      try dsimp only at h1
      by_cases hi : i = env.length
      · rw [if_pos hi] at h1
        refine ⟨nF a h1, ?_, (r.bnd _ a h1).2.2⟩
        cases hH : H a with
        | none => exact absurd hH (r.bnd _ a h1).2.1
        | some u =>
          rw [kp a u h1 hH]
          exact Option.some_ne_none _
      · rw [if_neg hi] at h1
        exact ⟨(r'.bnd i a h1).1, (r'.bnd i a h1).2.1, gS a (r'.bnd i a h1).2.2⟩
    · intro a u e q
      refine j'.keep a u (j.keep a u e q) fun ⟨i, _, z⟩ => ?_
      rcases (r.bnd i a z).2.2 with w | w
      · rw [e] at w; cases w
      · exact q w
    · intro a h
      rcases j'.fs a h with z | z
      · exact j.fs a z
      · exact .inr (gS a z)
end
def wipeE (e : Ev) : List Nat → Ev
  | [] => e
  | v :: vs => (wipeE e vs).set v none
def frO : Option (Option O) → Option O
  | some (some (.fr d)) => some (.fr d)
  | _ => none
def restE : List Nat → Ev → Ev → Ev
  | [], _, e2 => e2
  | i :: is, e1, e2 => (restE is e1 e2).set i (frO e1[i]?)
def Res.nox {α : Type} (r : Res α) : Res α := match r with
  | .ok a e => .ok a e
  | _ => .no
def compL (u : UM) (t : TM) (f : EM) (own : List Nat) : List PyData → Ev → Res (List PyData)
  | [], e => .ok [] e
  | d :: ds, e => match u d with
    | none => .no
    | some as => (t (setEv e as)).nox.bind fun b e2 => if b then (f e2).nox.bind fun y e3 => (compL u t f own ds (wipeE e3 own)).bind fun ys e4 => .ok (y :: ys) e4 else compL u t f own ds (wipeE e2 own)
def eComp (it : LM) (u : UM) (t : TM) (f : EM) (own : List Nat) : EM := fun e => (it e).bind fun ds e1 => if ds.length ≤ sz then (compL u t f own ds (wipeE e1 own)).bind fun ys e2 => .ok (.list ys) (restE own e1 e2) else .no
def tT : TM := fun e => .ok true e
theorem frO_some {x : Option (Option O)} {o : O} (h : frO x = some o) : ∃ d, o = .fr d ∧ x = some (some (.fr d)) := by
  unfold frO at h
  split at h
  · cases h
    exact ⟨_, rfl, rfl⟩
  · cases h
theorem restE_get {e1 e2 : Ev} {k : Nat} {o : O} : ∀ {own : List Nat}, (restE own e1 e2)[k]? = some (some o) → (∃ d, o = .fr d ∧ e1[k]? = some (some (.fr d))) ∨ e2[k]? = some (some o)
  | [], h => .inr h
  | i :: is, h => by
    unfold restE at h
    by_cases hk : i = k
    · subst hk
      by_cases hi : i < (restE is e1 e2).length
      · rw [List.getElem?_set_self hi] at h
        have h' : frO e1[i]? = some o := by simpa using h
        exact .inl (frO_some h')
      · rw [List.getElem?_eq_none (by rw [List.length_set]; omega)] at h
        cases h
    · rw [List.getElem?_set_ne hk] at h
      exact restE_get (own := is) h
theorem restE_len {e1 e2 : Ev} : ∀ {own : List Nat}, (restE own e1 e2).length = e2.length
  | [] => rfl
  | i :: is => by
    unfold restE
    rw [List.length_set, restE_len (own := is)]
theorem wipe_get {σ : St} {k : Nat} : ∀ {own : List Nat}, (wipe σ own)[k]? = if k ∈ own ∧ k < σ.length then some none else σ[k]?
  | [] => by simp [wipe]
  | i :: is => by
    unfold wipe
    by_cases hk : i = k
    · subst hk
      by_cases hi : i < σ.length
      · rw [List.getElem?_set_self (by rw [wipe_length]; exact hi), if_pos ⟨List.mem_cons_self, hi⟩]
      · rw [List.getElem?_eq_none (by rw [List.length_set, wipe_length]; omega), if_neg (fun z => hi z.2), List.getElem?_eq_none (by omega)]
    · rw [List.getElem?_set_ne hk, wipe_get (own := is)]
      by_cases hm : k ∈ is ∧ k < σ.length
      · rw [if_pos hm, if_pos ⟨List.mem_cons_of_mem _ hm.1, hm.2⟩]
      · rw [if_neg hm, if_neg fun z => hm ⟨(List.mem_cons.mp z.1).resolve_left (fun w => hk w.symm), z.2⟩]
theorem setAll_len : ∀ {is : List Nat} {vs : List V} {σ : St}, (setAll σ is vs).length = σ.length
  | [], _, _ => by cases ‹List V› <;> rfl
  | i :: is, [], _ => rfl
  | i :: is, v :: vs, σ => by
    unfold setAll
    rw [setAll_len (is := is), List.length_set]
theorem setAll_get {k : Nat} : ∀ {is : List Nat} {vs : List V} {σ : St}, k ∉ is → (setAll σ is vs)[k]? = σ[k]?
  | [], _, _, _ => by cases ‹List V› <;> rfl
  | i :: is, [], _, _ => rfl
  | i :: is, v :: vs, σ, h => by
    unfold setAll
    rw [setAll_get (is := is) fun z => h (List.mem_cons_of_mem _ z), List.getElem?_set_ne fun z => h (by rw [z]; exact List.mem_cons_self)]
theorem wipe_setAll {σ : St} {own is : List Nat} {vs : List V} (h : ∀ i ∈ is, i ∈ own) : wipe (setAll (wipe σ own) is vs) own = wipe σ own := by
  refine List.ext_getElem? fun k => ?_
  rw [wipe_get, setAll_len, wipe_length]
  by_cases hk : k ∈ own ∧ k < σ.length
  · rw [if_pos hk, wipe_get, if_pos hk]
  · rw [if_neg hk]
    by_cases hi : k ∈ is
    · have ho := h k hi
      have hlt : ¬ k < σ.length := fun z => hk ⟨ho, z⟩
      rw [List.getElem?_eq_none (by rw [setAll_len, wipe_length]; omega), List.getElem?_eq_none (by rw [wipe_length]; omega)]
    · rw [setAll_get hi]
section
variable {K : PySem.W.Frag} {mg : MG} {G : Gd} {F F' : Hp} {env e1 e2 : Ev} {σ : St} {H H' : Hp}
theorem J0.wipe (j : J0 K mg G F env σ H) : ∀ own : List Nat, J0 K mg G F (wipeE env own) (L2.wipe σ own) H
  | [] => j
  | i :: is => (J0.wipe j is).drop
theorem J0.unwipe {own : List Nat} (j1 : J0 K mg G F e1 σ H) (j2 : J0 K mg G F' e2 (L2.wipe σ own) H') (s : Same F F') : J0 K mg G F' (restE own e1 e2) σ H' := by
  obtain ⟨Sf, r⟩ := j2.ex
  refine ⟨by rw [restE_len, j2.len, wipe_length], ⟨Sf, ?_, r.dis, r.bnd⟩, j2.sub, j2.keep, j2.f0, j2.fs⟩
  intro k o e
  rcases restE_get e with ⟨d, rfl, q⟩ | q
  · obtain ⟨v, h1, h2⟩ := j1.fr q
    exact ⟨v, h1, .fr (h2.mono s)⟩
  · obtain ⟨v, h1, h2⟩ := r.row k o q
    exact ⟨v, (wipe_some h1).1, h2⟩
theorem J0.setAll {as : List (Nat × PyData)} {vs : List V} (j : J0 K mg G F env σ H) (f : FzL K F vs (as.map (·.2))) : J0 K mg G F (setEv env as) (Ly.setAll σ (as.map (·.1)) vs) H := by
  induction as generalizing env σ vs with
  | nil => cases f; exact j
  | cons p r ih =>
    obtain ⟨i, d⟩ := p
    cases f with
    | cons h t => exact ih (j.setF h) t
/-- a further item at the end of the last row's list -/
theorem J0.push {xs : List PyData} {v : V} {D : Addr} {d : PyData} (j : J0 K mg G F (env ++ [some (.nd .lst (xs.map .fr))]) (σ ++ [some (.ref D)]) H) (f : Fz K F v d) :
    ∃ vs, H D = some (.lst vs) ∧ vs.length = xs.length ∧ J0 K mg G F (env ++ [some (.nd .lst ((xs ++ [d]).map .fr))]) (σ ++ [some (.ref D)]) (upd H D (.lst (vs ++ [v]))) := by
  have hl : env.length = σ.length := by
    have := j.len
    rw [List.length_append, List.length_append, List.length_singleton, List.length_singleton] at this
    omega
  have eo : (env ++ [some (O.nd .lst (xs.map .fr))])[env.length]? = some (some (.nd .lst (xs.map .fr))) := by
    rw [List.getElem?_append_right (Nat.le_refl _), Nat.sub_self]
    rfl
  have ev : (σ ++ [some (V.ref D)])[env.length]? = some (some (.ref D)) := by
    rw [hl, List.getElem?_append_right (Nat.le_refl _), Nat.sub_self]
    rfl
  obtain ⟨Sf, r⟩ := j.ex
  obtain ⟨v', q1, q2⟩ := r.row env.length _ eo
  rw [ev] at q1
  cases q1
  obtain ⟨a, vs, Sg, ea, h1, h2, h3, _⟩ := q2.lst
  cases ea
  rw [List.length_map] at h3
  refine ⟨vs, h1, h3, ?_⟩
  have j' := j.put (a := D) (o' := .nd .lst ((xs ++ [d]).map .fr)) (ho := .lst (vs ++ [v])) eo ev fun S q6 => ?_
  · rw [List.set_append_right _ _ (Nat.le_refl _), Nat.sub_self] at j'
    exact j'
  · obtain ⟨b, vs3, Sf3, eb, z3, z4, _⟩ := q6.lst
    cases eb
    refine ⟨z4, q6.lst_upd (by rw [List.length_append, List.length_map, List.length_append, h3]; rfl) fun vs4 y1 y2 i w o w1 w2 => ?_⟩
    rw [h1] at y1
    cases y1
    rw [List.map_append] at w2
    by_cases hi : i < vs.length
    · rw [List.getElem?_append_left hi] at w1
      rw [List.getElem?_append_left (by rw [List.length_map, ← h3]; exact hi)] at w2
      exact .inl ⟨w1, w2⟩
    · have hi2 : i = vs.length := by
        have := (List.getElem?_eq_some_iff.mp w1).1
        rw [List.length_append, List.length_singleton] at this
        omega
      subst hi2
      rw [List.getElem?_append_right (Nat.le_refl _), Nat.sub_self] at w1
      rw [List.getElem?_append_right (by rw [List.length_map, h3]; exact Nat.le_refl _), List.length_map, h3, Nat.sub_self] at w2
      have e1 : v = w := by simpa using w1
      have e2 : O.fr d = o := by simpa using w2
      rw [← e1, ← e2]
      exact .inr ⟨d, rfl, f⟩
end
theorem Res.bind_bind {α β γ : Type} (r : Res α) (k : α → Ev → Res β) (l : β → Ev → Res γ) : (r.bind k).bind l = r.bind fun a e => (k a e).bind l := by
  cases r <;> rfl
theorem fzL_fr : ∀ ds : List PyData, fzL (ds.map O.fr) = some ds
  | [] => rfl
  | d :: ds => by
    rw [List.map_cons, fzL, fzL_fr ds]
    rfl
section
variable {X : Cx} {W : WX} {pos : Pos}
theorem canComp {it : LM} {u : UM} {t : TM} {f : EM} {own : List Nat} (hu : ∀ d as, u d = some as → ∀ i ∈ as.map (·.1), i ∈ own) (σ : St) (H : Hp) (Q : VK) (h : canE X W (eComp it u t f own) σ H Q) :
    tLc (canI X W it) (canG X.K u) (canT X WF t) (canE X WF f) own σ H Q := by
  obtain ⟨G, F, env, j, p⟩ := h
  refine ⟨G, F, env, j, (PostR.bind p).imp fun ds F1 H1 s1 ⟨e1, j1, p2⟩ T w D hD => ?_⟩
  by_cases hsz : ds.length ≤ sz
  case neg =>
    rw [if_neg hsz] at p2
    exact p2.elim
  rw [if_pos hsz] at p2
  have j2 := (j1.j0.wipe own).newO hD (.lst []) (v := .ref D) (o := .nd .lst (([] : List PyData).map .fr)) (rep_new (ds := []) .nil)
  refine ⟨fun i m H' => ∃ F' env' acc, Same F1 F' ∧ J0 X.K X.mg G F' (env' ++ [some (.nd .lst (acc.map .fr))]) (wipe σ own ++ [some (.ref D)]) H' ∧ i + m = ds.length ∧ acc.length ≤ i ∧
    PostR X W G F1 σ (fun d F' H' => ∀ v, Fz X.K F' v d → Q v H') ((compL u t f own (ds.drop i) env').bind fun ys e2 => .ok (.list (acc ++ ys)) (restE own e1 e2)),
    ⟨ds.length, F1, wipeE e1 own, [], Same.refl F1, j2, by omega, Nat.le_refl _, p2⟩, ?_⟩
  rintro i m H' ⟨F', env', acc, s', j', him, hacc, q⟩
  obtain ⟨wg, ws⟩ := w F' H' s' j'.sub i
  by_cases hlt : i < ds.length
  · obtain ⟨go, yld⟩ := wg _ (List.getElem?_eq_getElem hlt)
    rw [List.drop_eq_getElem_cons hlt] at q
    unfold compL at q
    refine .inr ⟨go, fun H2 => ∃ F2 env2 acc2, Same F1 F2 ∧ J0 X.K X.mg G F2 (env2 ++ [some (.nd .lst (acc2.map .fr))]) (wipe σ own ++ [some (.ref D)]) H2 ∧ acc2.length ≤ i + 1 ∧
      PostR X W G F1 σ (fun d F' H' => ∀ v, Fz X.K F' v d → Q v H') ((compL u t f own (ds.drop (i + 1)) env2).bind fun ys e2 => .ok (.list (acc2 ++ ys)) (restE own e1 e2)),
      fun H2 ⟨F2, env2, acc2, a1, a2, a3, a4⟩ => ⟨m - 1, by omega, F2, env2, acc2, a1, a2, by omega, a3, a4⟩, fun x H'' y => ?_⟩
    obtain ⟨F'', gr, fx⟩ := yld x H'' y
    -- the turn: the item, its names, the test, the element, the list
    have grow0 : ∀ {F a b c : Hp} {env : Ev} {σ : St}, Grow F a b c → J0 X.K X.mg G F env σ a → Same F b ∧ J0 X.K X.mg G b env σ c := by
      intro F a b c env σ g
      induction g with
      | refl => exact fun j => ⟨Same.refl _, j⟩
      | step g hp ih =>
        intro j
        obtain ⟨s, j1⟩ := ih j
        exact ⟨s.trans (same_new (j1.free hp).1), j1.newF hp _⟩
    obtain ⟨s'', j''⟩ := grow0 gr j'
    cases hu' : u ds[i] with
    | none => simp only [hu'] at q; exact q.elim
    | some as =>
      simp only [hu'] at q
      refine ⟨F'', ds[i], as, j''.sub, fx, hu', fun vs fvs => ⟨wipe_setAll (hu _ _ hu'), ?_⟩⟩
      obtain ⟨G', hio, jp, back⟩ := j''.protect
      have io0 : ∀ {σ : St}, ∀ p ∈ G'.io, σ[p.1]? = some (some p.2) := fun p hp => by rw [hio] at hp; cases hp
      have j3 := jp.setAll fvs
      refine ⟨G', F'', _, ⟨j3, io0⟩, ?_⟩
      cases ht : t (setEv env' as) with
      | no => rw [ht] at q; exact q.elim
      | exc c e => rw [ht] at q; exact q.elim
      | ok b e2 =>
        rw [ht] at q
        intro F2 H2 s2 j4
        have wl : wipe (setAll (wipe σ own) (as.map (·.1)) vs) own = wipe σ own := wipe_setAll (hu _ _ hu')
        cases b with
        | false =>
          refine iteF ?_
          have j5 := j4.j0.wipe own
          rw [wl] at j5
          exact ⟨F2, wipeE e2 own, acc, s'.trans (s''.trans s2), back F2 _ _ H2 s2 rfl j5, by omega, q⟩
        | true =>
          refine iteT ?_
          refine ⟨G', F2, e2, j4, ?_⟩
          have q' : PostR X W G F1 σ (fun d F' H' => ∀ v, Fz X.K F' v d → Q v H') (((f e2).nox.bind fun y e3 => (compL u t f own (ds.drop (i + 1)) (wipeE e3 own)).bind fun ys e4 => .ok (y :: ys) e4).bind fun ys e2 => .ok (.list (acc ++ ys)) (restE own e1 e2)) := q
          cases hf : f e2 with
          | no => rw [hf] at q'; exact q'.elim
          | exc c e => rw [hf] at q'; exact q'.elim
          | ok y e3 =>
            rw [hf] at q'
            intro F3 H3 s3 j6 z fz
            have j7 := j6.j0.wipe own
            rw [wl] at j7
            have j8 := back F3 _ _ H3 (s2.trans s3) rfl j7
            obtain ⟨vs4, h1, h2, j9⟩ := j8.push fz
            refine ⟨vs4, h1, by rw [h2, sz_eq]; omega, F3, wipeE e3 own, acc ++ [y], s'.trans (s''.trans (s2.trans s3)), j9, by rw [List.length_append, List.length_singleton]; omega, ?_⟩
            have e : (fun (ys : List PyData) (e2 : Ev) => (Res.ok (.list ((acc ++ [y]) ++ ys)) (restE own e1 e2) : Res PyData)) = fun ys e2 => .ok (.list (acc ++ y :: ys)) (restE own e1 e2) := by
              funext ys e2
              rw [List.append_assoc]
              rfl
            rw [e]
            have q2 : PostR X W G F1 σ (fun d F' H' => ∀ v, Fz X.K F' v d → Q v H') (((compL u t f own (ds.drop (i + 1)) (wipeE e3 own)).bind fun ys e4 => .ok (y :: ys) e4).bind fun ys e2 => .ok (.list (acc ++ ys)) (restE own e1 e2)) := q'
            rw [Res.bind_bind] at q2
            exact q2
  · have e : i = ds.length := by omega
    subst e
    rw [List.drop_length] at q
    refine .inl ⟨ws (Nat.le_refl _), ?_⟩
    obtain ⟨F2, s2, f2, j3⟩ := j'.freezeL (d := .list acc) (by rw [O.fz, fzL_fr]; rfl)
    have j4 := j1.j0.unwipe j3 (s'.trans s2)
    have q' : PostR X W G F1 σ (fun d F' H' => ∀ v, Fz X.K F' v d → Q v H') (.ok (.list (acc ++ [])) (restE own e1 env')) := q
    rw [List.append_nil] at q'
    exact q' F2 H' (s'.trans s2) ⟨j4, j1.io⟩ _ f2
structure DTs (X : Cx) (W : WX) (ifs : List Expr) (t : TM) : Prop where
  run : PTs X ifs (canT X W t)
theorem ts_n : DTs X W [] tT := ⟨⟨fun pins s σ H Q I ⟨G, F, env, j, h⟩ => pts_nil.run pins s σ H Q I (h F H (Same.refl F) j)⟩⟩
theorem ts_1 {c : Expr} {t : TM} (h : DT X W c t) : DTs X W [c] t := ⟨pts_one h⟩
theorem d_comp {elt tg iter : Expr} {ifs : List Expr} {scope : Scope} {own : List (Str × Nat)} {it : LM} {u : UM} {t : TM} {f : EM} {is : List Nat} (hc : X.calm = true) (hN : X.N.Nodup) (hi : DI X W tg iter it) (ok : BlkOk X.N X.env.scope scope own)
    (hg : ∀ (s : Shared) (H : Hp) (C : Addr) (cl : List (Str × Addr)) (fp : List Addr), DG (X.blk s H scope (compEnvC scope cl C X.env) fp) is tg u) (ht : ∀ (s : Shared) (H : Hp) (C : Addr) (cl : List (Str × Addr)) (fp : List Addr), DTs (X.blk s H scope (compEnvC scope cl C X.env) fp) WF ifs t)
    (he : ∀ (s : Shared) (H : Hp) (C : Addr) (cl : List (Str × Addr)) (fp : List Addr), DE (X.blk s H scope (compEnvC scope cl C X.env) fp) WF elt f) (hown : ∀ i ∈ is, i ∈ own.map (·.2) := by decide) (hs : ∀ x, foldedSetIterable iter X.env x = pure x := by intro _; rfl) :
    DE X W (.ListComp elt [⟨tg, iter, ifs, 0⟩] scope pos) (eComp it u t f (own.map (·.2))) :=
  ⟨fun pins s σ H Q I h => (pe_lc (g := canG X.K u) (tt := canT X WF t) (te := canE X WF f) hc hN hi ok (fun s H C cl fp => (hg s H C cl fp).run) (fun s H C cl fp => (ht s H C cl fp).run) (fun s H C cl fp => he s H C cl fp) hs).run pins s σ H Q I
    (canComp (fun d as h' i hi' => hown i (by rw [← (hg s H 0 [] []).st d as h']; exact hi')) σ H Q h)⟩
theorem s_comp (i : Nat) {y : Str} {py spos : Pos} {elt tg iter : Expr} {ifs : List Expr} {scope : Scope} {own : List (Str × Nat)} {it : LM} {u : UM} {t : TM} {f : EM} {is ks : List Nat} (hc : X.calm = true) (hN : X.N.Nodup)
    (hsw : swapsWith (.ListComp elt [⟨tg, iter, ifs, 0⟩] scope pos) (some (.Name y py)) spos.line X.env = pure true) (hi : DI X W tg iter it) (ok : BlkOk X.N X.env.scope scope own)
    (hg : ∀ (s : Shared) (H : Hp) (C : Addr) (cl : List (Str × Addr)) (fp : List Addr), DG (X.blk s H scope (compEnvC scope cl C X.env) fp) is tg u) (ht : ∀ (s : Shared) (H : Hp) (C : Addr) (cl : List (Str × Addr)) (fp : List Addr), DTs (X.blk s H scope (compEnvC scope cl C X.env) fp) WF ifs t)
    (he : ∀ (s : Shared) (H : Hp) (C : Addr) (cl : List (Str × Addr)) (fp : List Addr), DE (X.blk s H scope (compEnvC scope cl C X.env) fp) WF elt f) (hy : X.N[i]? = some y := by rfl) (hyl : X.env.scope.names.lookup y = some .local := by rfl) (hks : i ∉ ks := by decide) (hown : ∀ i ∈ is, i ∈ own.map (·.2) := by decide)
    (hs : ∀ x, foldedSetIterable iter X.env x = pure x := by intro _; rfl) : DS X W ks (.Assign [.Name y py] (.ListComp elt [⟨tg, iter, ifs, 0⟩] scope pos) spos) (sSt i (eComp it u t f (own.map (·.2)))) :=
  ⟨fun pins s σ H D I h => (ps_setLc (g := canG X.K u) (tt := canT X WF t) (te := canE X WF f) hc hN hy hyl hsw hi ok (fun s H C cl fp => (hg s H C cl fp).run) (fun s H C cl fp => (ht s H C cl fp).run) (fun s H C cl fp => he s H C cl fp) hs).run pins s σ H D I
    (canSt (fun σ H Q h => canComp (fun d as h' i hi' => hown i (by rw [← (hg s H 0 [] []).st d as h']; exact hi')) σ H Q h) hks D σ H h)⟩
end
end Ly

set_option Elab.async false
set_option linter.all false
set_option maxRecDepth 100000
set_option maxHeartbeats 4000000
set_option autoImplicit false
namespace Ly
open PySem PySem.Spec L2

/-! ## operations on data -/
theorem op_catL {X : Cx} : OpR X (binaryOp .Add) (fun x y H Q => ∃ l b xs zs, x = .ref l ∧ y = .ref b ∧ SqL X.K H l xs ∧ SqL X.K H b zs ∧ xs.length + zs.length ≤ sizeLine ∧ ∀ p, H p = none → Q (.ref p) (upd H p (.lst (xs ++ zs)))) := by
  intro pins s σ H x y v u Q I rx ry h
  obtain ⟨l, b, xs, zs, rfl, rfl, hH, hB, hz, q⟩ := h
  cases rx
  cases ry
  obtain ⟨its, r, ⟨⟨cls, dd, data, sl⟩, n, e, hc, hd, hdat⟩, z⟩ := I.list hH
  obtain ⟨its2, r2, ⟨⟨cls2, dd2, data2, sl2⟩, n2, e2, hc2, hd2, hdat2⟩, z2⟩ := I.list hB
  simp only at hc hdat hc2 hdat2
  subst hc hdat hc2 hdat2
  have hl := r.length
  have hl2 := r2.length
  refine concat_meets ⟨_, e, rfl⟩ ⟨_, e2, rfl⟩ noFill_list_add seq_list_add PySem.F.slot_list_add PySem.F.entry_list_add (PySem.F.args_list_add_2 _ _)
    (PyProof.Rows.list_addW l b its.toArray its2.toArray n n2 dd dd2 sl sl2 (by rw [List.size_toArray, List.size_toArray]; omega)) ⟨e, e2, ?_⟩
  have ea : its.toArray ++ its2.toArray = (its ++ its2).toArray := by simp
  rw [ea]
  exact ⟨.ref _, _, I.lnew (t' := s.toks) (r.append r2) (by rw [List.length_append]; omega), rfl, q _ I.fresh⟩
def gAdd : PyData → PyData → Option PyData
  | .int i, .int j => some (.int (i + j))
  | .str x, .str y => if x.length + y.length ≤ sz then some (.str (x ++ y)) else none
  | .list xs, .list ys => if xs.length + ys.length ≤ sz then some (.list (xs ++ ys)) else none
  | _, _ => none
def rAdd2 (K : PySem.W.Frag) : R2 := fun x y H Q => rI0 (fun i j => .int (i + j)) x y H Q ∨ (∃ i j, x = .str i ∧ y = .str j ∧ i.length + j.length ≤ sizeLine ∧ Q (.str (i ++ j)) H) ∨
  ∃ l b xs zs, x = .ref l ∧ y = .ref b ∧ SqL K H l xs ∧ SqL K H b zs ∧ xs.length + zs.length ≤ sizeLine ∧ ∀ p, H p = none → Q (.ref p) (upd H p (.lst (xs ++ zs)))
theorem o_add {X : Cx} : OpR X (binaryOp .Add) (rAdd2 X.K) := op_add.or (op_add_str.or op_catL)
theorem n_add {K : PySem.W.Frag} : Snd2 K (rAdd2 K) gAdd := by
  intro F H x y a b c Q s fx fy hg q
  cases fx with
  | int i =>
    cases fy with
    | int k => cases hg; exact .inl ⟨i, k, rfl, rfl, q _ F H .refl (.int _)⟩
    | _ => cases hg
  | str x =>
    cases fy with
    | str y =>
      have hg : (if x.length + y.length ≤ sz then some (PyData.str (x ++ y)) else none) = some c := hg
      by_cases h : x.length + y.length ≤ sz
      · rw [if_pos h] at hg
        cases hg
        exact .inr (.inl ⟨x, y, rfl, rfl, by rw [sz_eq]; exact h, q _ F H .refl (.str _)⟩)
      · rw [if_neg h] at hg
        cases hg
    | _ => cases hg
  | @lst l xs ds h1 t1 =>
    cases fy with
    | @lst b zs es h2 t2 =>
      have hg : (if ds.length + es.length ≤ sz then some (PyData.list (ds ++ es)) else none) = some c := hg
      by_cases h : ds.length + es.length ≤ sz
      · rw [if_pos h] at hg
        cases hg
        refine .inr (.inr ⟨l, b, xs, zs, rfl, rfl, s.seq h1, s.seq h2, by rw [sz_eq, t1.length, t2.length]; exact h, fun p hp => ?_⟩)
        exact q _ _ _ (.one hp) (.lst (.inl (.inl upd_same)) (FzL.mono (same_new (s.free hp)) (t1.app t2)))
      · rw [if_neg h] at hg
        cases hg
    | _ => cases hg
  | _ => cases hg
def gSub : PyData → PyData → Option PyData
  | .int i, .int j => some (.int (i - j))
  | _, _ => none
theorem n_sub {K : PySem.W.Frag} : Snd2 K (rI0 fun i j => .int (i - j)) gSub := by
  intro F H x y a b c Q s fx fy hg q
  cases fx with
  | int i =>
    cases fy with
    | int k => cases hg; exact ⟨i, k, rfl, rfl, q _ F H .refl (.int _)⟩
    | _ => cases hg
  | _ => cases hg
def in64 (i : Int) : Bool := decide (-(2 ^ 64) < i) && decide (i < 2 ^ 64)
theorem in64_of {i : Int} (h : in64 i = true) : -(2 ^ 64) < i ∧ i < 2 ^ 64 := by
  unfold in64 at h
  rw [Bool.and_eq_true] at h
  exact ⟨of_decide_eq_true h.1, of_decide_eq_true h.2⟩
def gMul : PyData → PyData → Option PyData
  | .int i, .int j => if in64 i || in64 j then some (.int (i * j)) else none
  | _, _ => none
theorem n_mul {K : PySem.W.Frag} : Snd2 K (rI CMul fun i j => .int (i * j)) gMul := by
  intro F H x y a b c Q s fx fy hg q
  cases fx with
  | int i =>
    cases fy with
    | int k =>
      have hg : (if (in64 i || in64 k) = true then some (PyData.int (i * k)) else none) = some c := hg
      by_cases h : (in64 i || in64 k) = true
      · rw [if_pos h] at hg
        cases hg
        refine ⟨i, k, rfl, rfl, ?_, q _ F H .refl (.int _)⟩
        rw [Bool.or_eq_true] at h
        rcases h with h | h
        · exact .inl (in64_of h)
        · exact .inr (in64_of h)
      · rw [if_neg h] at hg
        cases hg
    | _ => cases hg
  | _ => cases hg
def gMod : PyData → PyData → Option PyData
  | .int i, .int j => if 0 < j then some (.int (i % j)) else none
  | _, _ => none
theorem n_mod {K : PySem.W.Frag} : Snd2 K (rI (fun _ j => 0 < j) fun i j => .int (i % j)) gMod := by
  intro F H x y a b c Q s fx fy hg q
  cases fx with
  | int i =>
    cases fy with
    | int k =>
      have hg : (if 0 < k then some (PyData.int (i % k)) else none) = some c := hg
      by_cases h : 0 < k
      · rw [if_pos h] at hg
        cases hg
        exact ⟨i, k, rfl, rfl, h, q _ F H .refl (.int _)⟩
      · rw [if_neg h] at hg
        cases hg
    | _ => cases hg
  | _ => cases hg
def gDiv : PyData → PyData → Option PyData
  | .int i, .int j => if 0 < j ∧ j < 1073741824 then some (.int (i / j)) else none
  | _, _ => none
theorem n_div {K : PySem.W.Frag} : Snd2 K (rI CDiv fun i j => .int (i / j)) gDiv := by
  intro F H x y a b c Q s fx fy hg q
  cases fx with
  | int i =>
    cases fy with
    | int k =>
      have hg : (if 0 < k ∧ k < 1073741824 then some (PyData.int (i / k)) else none) = some c := hg
      by_cases h : 0 < k ∧ k < 1073741824
      · rw [if_pos h] at hg
        cases hg
        exact ⟨i, k, rfl, rfl, h, q _ F H .refl (.int _)⟩
      · rw [if_neg h] at hg
        cases hg
    | _ => cases hg
  | _ => cases hg
def gPow : PyData → PyData → Option PyData
  | .int i, .int j => if 0 ≤ j ∧ j ≤ 1000000 ∧ i.natAbs < 2 ^ 64 then some (.int (i ^ j.toNat)) else none
  | _, _ => none
theorem n_pow {K : PySem.W.Frag} : Snd2 K (rI CPow fun i j => .int (i ^ j.toNat)) gPow := by
  intro F H x y a b c Q s fx fy hg q
  cases fx with
  | int i =>
    cases fy with
    | int k =>
      have hg : (if 0 ≤ k ∧ k ≤ 1000000 ∧ i.natAbs < 2 ^ 64 then some (PyData.int (i ^ k.toNat)) else none) = some c := hg
      by_cases h : 0 ≤ k ∧ k ≤ 1000000 ∧ i.natAbs < 2 ^ 64
      · rw [if_pos h] at hg
        cases hg
        exact ⟨i, k, rfl, rfl, h, q _ F H .refl (.int _)⟩
      · rw [if_neg h] at hg
        cases hg
    | _ => cases hg
  | _ => cases hg
def gNeg : PyData → Option PyData
  | .int i => some (.int (-i))
  | _ => none
theorem n_neg {K : PySem.W.Frag} : Snd1 K (rU fun i => .int (-i)) gNeg := by
  intro F H x a c Q s fx hg q
  cases fx with
  | int i => cases hg; exact ⟨i, rfl, q _ F H .refl (.int _)⟩
  | _ => cases hg

/-! ## comparisons -/
def gLt : PyData → PyData → Option PyData
  | .int i, .int j => some (.bool (decide (i < j)))
  | .str i, .str j => some (.bool (decide (i.cps.toList < j.cps.toList)))
  | _, _ => none
def gLe : PyData → PyData → Option PyData
  | .int i, .int j => some (.bool (decide (i ≤ j)))
  | .str i, .str j => some (.bool (!decide (j.cps.toList < i.cps.toList)))
  | _, _ => none
def gGt : PyData → PyData → Option PyData
  | .int i, .int j => some (.bool (decide (j < i)))
  | .str i, .str j => some (.bool (decide (j.cps.toList < i.cps.toList)))
  | _, _ => none
def gGe : PyData → PyData → Option PyData
  | .int i, .int j => some (.bool (decide (j ≤ i)))
  | .str i, .str j => some (.bool (!decide (i.cps.toList < j.cps.toList)))
  | _, _ => none
def rLt2 : R2 := fun x y H Q => rI0 (fun i j => .bl (decide (i < j))) x y H Q ∨ ∃ i j, x = .str i ∧ y = .str j ∧ Q (.bl (decide (i.cps.toList < j.cps.toList))) H
def rLe2 : R2 := fun x y H Q => rI0 (fun i j => .bl (decide (i ≤ j))) x y H Q ∨ ∃ i j, x = .str i ∧ y = .str j ∧ Q (.bl (!decide (j.cps.toList < i.cps.toList))) H
def rGt2 : R2 := fun x y H Q => rI0 (fun i j => .bl (decide (j < i))) x y H Q ∨ ∃ i j, x = .str i ∧ y = .str j ∧ Q (.bl (decide (j.cps.toList < i.cps.toList))) H
def rGe2 : R2 := fun x y H Q => rI0 (fun i j => .bl (decide (j ≤ i))) x y H Q ∨ ∃ i j, x = .str i ∧ y = .str j ∧ Q (.bl (!decide (i.cps.toList < j.cps.toList))) H
theorem o_lt {X : Cx} : OpR X (compareOp .Lt) rLt2 := op_lt.or op_lt_str
theorem o_le {X : Cx} : OpR X (compareOp .LtE) rLe2 := op_le.or op_le_str
theorem o_gt {X : Cx} : OpR X (compareOp .Gt) rGt2 := op_gt.or op_gt_str
theorem o_ge {X : Cx} : OpR X (compareOp .GtE) rGe2 := op_ge.or op_ge_str
theorem n_lt {K : PySem.W.Frag} : Snd2 K rLt2 gLt := by
  intro F H x y a b c Q s fx fy hg q
  cases fx with
  | int i => cases fy with
    | int k => cases hg; exact .inl ⟨i, k, rfl, rfl, q _ F H .refl (.bl _)⟩
    | _ => cases hg
  | str i => cases fy with
    | str k => cases hg; exact .inr ⟨i, k, rfl, rfl, q _ F H .refl (.bl _)⟩
    | _ => cases hg
  | _ => cases hg
theorem n_le {K : PySem.W.Frag} : Snd2 K rLe2 gLe := by
  intro F H x y a b c Q s fx fy hg q
  cases fx with
  | int i => cases fy with
    | int k => cases hg; exact .inl ⟨i, k, rfl, rfl, q _ F H .refl (.bl _)⟩
    | _ => cases hg
  | str i => cases fy with
    | str k => cases hg; exact .inr ⟨i, k, rfl, rfl, q _ F H .refl (.bl _)⟩
    | _ => cases hg
  | _ => cases hg
theorem n_gt {K : PySem.W.Frag} : Snd2 K rGt2 gGt := by
  intro F H x y a b c Q s fx fy hg q
  cases fx with
  | int i => cases fy with
    | int k => cases hg; exact .inl ⟨i, k, rfl, rfl, q _ F H .refl (.bl _)⟩
    | _ => cases hg
  | str i => cases fy with
    | str k => cases hg; exact .inr ⟨i, k, rfl, rfl, q _ F H .refl (.bl _)⟩
    | _ => cases hg
  | _ => cases hg
theorem n_ge {K : PySem.W.Frag} : Snd2 K rGe2 gGe := by
  intro F H x y a b c Q s fx fy hg q
  cases fx with
  | int i => cases fy with
    | int k => cases hg; exact .inl ⟨i, k, rfl, rfl, q _ F H .refl (.bl _)⟩
    | _ => cases hg
  | str i => cases fy with
    | str k => cases hg; exact .inr ⟨i, k, rfl, rfl, q _ F H .refl (.bl _)⟩
    | _ => cases hg
  | _ => cases hg
/-! data without dicts is HandS's -/
section
variable {K : PySem.W.Frag} {F : Hp}
mutual
theorem Fz.dp : ∀ {v : V} {d : PyData}, Fz K F v d → d.canLay0 = true → Dp K F v d
  | _, _, .non, _ => .non
  | _, _, .bl b, _ => .bl b
  | _, _, .int i, _ => .int i
  | _, _, .str x, _ => .str x
  | _, _, .lst h t, e => .lst h (FzL.dp t e)
  | _, _, .tup h t, e => .tup (.inl (.inl h)) (FzL.dp t e)
  | _, _, .dK _ _, e => by cases e
  | _, _, .dT _ _, e => by cases e
  | _, _, .kt _ _, e => by cases e
theorem FzL.dp : ∀ {vs : List V} {ds : List PyData}, FzL K F vs ds → PyData.canLayAll0 ds = true → DpAll K F vs ds
  | _, _, .nil, _ => .nil
  | _, _, .cons h t, e => by
    rw [PyData.canLayAll0, Bool.and_eq_true] at e
    exact .cons (Fz.dp h e.1) (FzL.dp t e.2)
end
theorem shaped_lay {d : PyData} (h : SeqAt.shaped d = true) : d.canLay0 = true := by
  unfold SeqAt.shaped at h
  rw [Bool.and_eq_true] at h
  exact h.1
end
def gEq (a b : PyData) : Option PyData := if SeqAt.shaped a && SeqAt.shaped b then some (.bool (PyData.eqv a b)) else none
def gNe (a b : PyData) : Option PyData := if SeqAt.shaped a && SeqAt.shaped b then some (.bool (!PyData.eqv a b)) else none
theorem n_eq {K : PySem.W.Frag} : Snd2 K (rEqD K) gEq := by
  intro F H x y a b c Q s fx fy hg q
  unfold gEq at hg
  by_cases h : (SeqAt.shaped a && SeqAt.shaped b) = true
  · rw [if_pos h] at hg
    cases hg
    rw [Bool.and_eq_true] at h
    exact ⟨a, b, (fx.mono s).dp (shaped_lay h.1), (fy.mono s).dp (shaped_lay h.2), h.1, h.2, q _ F H .refl (.bl _)⟩
  · rw [if_neg h] at hg
    cases hg
theorem n_ne {K : PySem.W.Frag} : Snd2 K (rNeD K) gNe := by
  intro F H x y a b c Q s fx fy hg q
  unfold gNe at hg
  by_cases h : (SeqAt.shaped a && SeqAt.shaped b) = true
  · rw [if_pos h] at hg
    cases hg
    rw [Bool.and_eq_true] at h
    exact ⟨a, b, (fx.mono s).dp (shaped_lay h.1), (fy.mono s).dp (shaped_lay h.2), h.1, h.2, q _ F H .refl (.bl _)⟩
  · rw [if_neg h] at hg
    cases hg
def isN : PyData → Bool
  | .none => true
  | _ => false
def gIs (a b : PyData) : Option PyData := if isN b then some (.bool (isN a)) else none
def gIsnt (a b : PyData) : Option PyData := if isN b then some (.bool (!isN a)) else none
theorem isN_of {K : PySem.W.Frag} {F : Hp} {v : V} {d : PyData} (f : Fz K F v d) : decide (v = .non) = isN d := by
  cases f <;> first | rfl | exact decide_eq_false (fun z => nomatch z)
theorem isN_v {K : PySem.W.Frag} {F : Hp} {v : V} {d : PyData} (f : Fz K F v d) (h : isN d = true) : v = .non := by
  cases f <;> first | rfl | cases h
theorem n_is {K : PySem.W.Frag} : Snd2 K (fun x y H Q => y = .non ∧ Q (.bl (decide (x = .non))) H) gIs := by
  intro F H x y a b c Q s fx fy hg q
  unfold gIs at hg
  by_cases h : isN b = true
  · rw [if_pos h] at hg
    cases hg
    refine ⟨isN_v fy h, ?_⟩
    rw [isN_of fx]
    exact q _ F H .refl (.bl _)
  · rw [if_neg h] at hg
    cases hg
theorem n_isnt {K : PySem.W.Frag} : Snd2 K (fun x y H Q => y = .non ∧ Q (.bl (!decide (x = .non))) H) gIsnt := by
  intro F H x y a b c Q s fx fy hg q
  unfold gIsnt at hg
  by_cases h : isN b = true
  · rw [if_pos h] at hg
    cases hg
    refine ⟨isN_v fy h, ?_⟩
    rw [isN_of fx]
    exact q _ F H .refl (.bl _)
  · rw [if_neg h] at hg
    cases hg

/-! ## items, slices, length, kinds -/
def gIx : PyData → PyData → Option PyData
  | .list ds, .int i => atI ds i
  | .tuple ds, .int i => atI ds i
  | .str x, .int i => if x.length ≤ sz then (atI x.cps.toList i).map fun c => .str ⟨#[c]⟩ else none
  | _, _ => none
theorem atI_fz {K : PySem.W.Frag} {F : Hp} {vs : List V} {ds : List PyData} (t : FzL K F vs ds) {i : Int} {d : PyData} (h : atI ds i = some d) : ∃ v, atI vs i = some v ∧ Fz K F v d := by
  obtain ⟨j, v, h1, h2, h3⟩ := at_pair t.length.symm h
  obtain ⟨v', h4, h5⟩ := t.get h1
  rw [h2] at h4
  cases h4
  exact ⟨v, h3, h5⟩
theorem n_ix {K : PySem.W.Frag} : Snd2 K (rIx K) gIx := by
  intro F H x y a b c Q s fx fy hg q
  cases fx with
  | @lst l xs ds h1 t1 => cases fy with
    | int k =>
      obtain ⟨v, e, f⟩ := atI_fz t1 hg
      exact .inl ⟨l, xs, k, v, rfl, rfl, s.seq h1, e, q _ F H .refl f⟩
    | _ => cases hg
  | @tup l xs ds h1 t1 => cases fy with
    | int k =>
      obtain ⟨v, e, f⟩ := atI_fz t1 hg
      exact .inr (.inl ⟨l, xs, k, v, rfl, rfl, sameT s (.inl (.inl h1)), e, q _ F H .refl f⟩)
    | _ => cases hg
  | str x => cases fy with
    | int k =>
      have hg : (if x.length ≤ sz then (atI x.cps.toList k).map fun c => PyData.str ⟨#[c]⟩ else none) = some c := hg
      by_cases h : x.length ≤ sz
      · rw [if_pos h] at hg
        cases hc : atI x.cps.toList k with
        | none => rw [hc] at hg; cases hg
        | some ch =>
          rw [hc] at hg
          cases hg
          exact .inr (.inr ⟨x, k, ch, rfl, rfl, by rw [sz_eq]; exact h, hc, q _ F H .refl (.str _)⟩)
      · rw [if_neg h] at hg
        cases hg
    | _ => cases hg
  | _ => cases hg
def cutD {α : Type} (xs : List α) (lo hi : Option Int) : List α := (xs.drop (HT.sIx xs.length 0 lo)).take (HT.sIx xs.length xs.length hi - HT.sIx xs.length 0 lo)
def gSl : PyData → Option Int → Option Int → Option PyData
  | .list ds, lo, hi => some (.list (cutD ds lo hi))
  | .str x, lo, hi => if x.length ≤ sz then some (.str (cutS x lo hi)) else none
  | _, _, _ => none
def rSl2 (K : PySem.W.Frag) : V → Option Int → Option Int → Hp → VK → Prop := fun x lo hi H Q => rSlL K x lo hi H Q ∨ rSlS x lo hi H Q
theorem o_sl {X : Cx} : SlR X (rSl2 X.K) := SlR.or sl_list sl_str
theorem n_sl {K : PySem.W.Frag} : SndS K (rSl2 K) gSl := by
  intro F H x a lo hi c Q s fx hg q
  cases fx with
  | @lst l xs ds h1 t1 =>
    cases hg
    refine .inl ⟨l, xs, rfl, s.seq h1, fun p hp => q _ _ _ (.one hp) (.lst (.inl (.inl upd_same)) (FzL.mono (same_new (s.free hp)) ?_))⟩
    unfold cutV cutD
    rw [t1.length]
    exact FzL.take _ (FzL.drop _ t1)
  | str x =>
    have hg : (if x.length ≤ sz then some (PyData.str (cutS x lo hi)) else none) = some c := hg
    by_cases h : x.length ≤ sz
    · rw [if_pos h] at hg
      cases hg
      exact .inr ⟨x, rfl, by rw [sz_eq]; exact h, q _ F H .refl (.str _)⟩
    · rw [if_neg h] at hg
      cases hg
  | _ => cases hg
def gLen : List PyData → Option PyData
  | [.list ds] => some (.int ds.length)
  | [.tuple ds] => some (.int ds.length)
  | [.str x] => if x.length ≤ sz then some (.int x.length) else none
  | _ => none
theorem n_len {K : PySem.W.Frag} : SndL K (fun xs H Q => ∃ x n, xs = [x] ∧ LenV K x H n ∧ Q (.int n) H) gLen := by
  intro F H xs as c Q s f hg q
  cases f with
  | nil => cases hg
  | @cons v vs d ds h t =>
    cases t with
    | cons _ _ => cases d <;> cases hg
    | nil =>
      cases h with
      | lst h1 t1 =>
        cases hg
        exact ⟨_, _, rfl, .inl ⟨_, s.seq h1, t1.length.symm⟩, q _ F H .refl (.int _)⟩
      | tup h1 t1 =>
        cases hg
        exact ⟨_, _, rfl, .inr ⟨_, sameT s (.inl (.inl h1)), t1.length.symm⟩, q _ F H .refl (.int _)⟩
      | str x =>
        have hg : (if x.length ≤ sz then some (PyData.int x.length) else none) = some c := hg
        by_cases hx : x.length ≤ sz
        · rw [if_pos hx] at hg
          cases hg
          exact ⟨_, _, rfl, ⟨by rw [sz_eq]; exact hx, rfl⟩, q _ F H .refl (.int _)⟩
        · rw [if_neg hx] at hg
          cases hg
      | _ => cases hg
/-! isinstance -/
inductive Ty where
  | int | bool | str | list | tuple | dict
def Ty.nm : Ty → String
  | .int => "int"
  | .bool => "bool"
  | .str => "str"
  | .list => "list"
  | .tuple => "tuple"
  | .dict => "dict"
inductive Kd where
  | non | bool | int | str | list | tuple | dict
def Kd.nm : Kd → String
  | .non => "NoneType"
  | .bool => "bool"
  | .int => "int"
  | .str => "str"
  | .list => "list"
  | .tuple => "tuple"
  | .dict => "dict"
def tyK : PyData → Kd
  | .none => .non
  | .bool _ => .bool
  | .int _ => .int
  | .str _ => .str
  | .list _ => .list
  | .tuple _ => .tuple
  | .dict ((.bool _, _) :: _) => .tuple
  | .dict _ => .dict
def isiK : Kd → Ty → Bool
  | .bool, .int => true
  | .bool, .bool => true
  | .int, .int => true
  | .str, .str => true
  | .list, .list => true
  | .tuple, .tuple => true
  | .dict, .dict => true
  | _, _ => false
def isiD (d : PyData) (t : Ty) : Bool := isiK (tyK d) t
def tyN (d : PyData) : String := (tyK d).nm
theorem kit_isiK (k : Kd) (t : Ty) : kitB k.nm t.nm = some (isiK k t) := by
  cases k <;> cases t <;> decide +kernel
theorem kit_isi (d : PyData) (t : Ty) : kitB (tyN d) t.nm = some (isiD d t) := kit_isiK _ t
theorem tyX_of {K : PySem.W.Frag} {F H : Hp} {v : V} {d : PyData} (s : Same F H) (f : Fz K F v d) : TyX K H v (.type (tyN d)) := by
  cases f with
  | non => exact .base .non
  | bl b => exact .base (.bl b)
  | int i => exact .base (.int i)
  | str x => exact .base (.str x)
  | lst h t =>
    rcases s.seq h with (h | ⟨o, h⟩) | ⟨o, its, n, h1, h2, _⟩
    · exact .base (.lst h)
    · exact .base (.frz h)
    · exact .kList h1 h2
  | tup h t =>
    exact .base (.tup (s _ _ h))
  | @dK a kvs ds h t =>
    have e : tyN (.dict ds) = "dict" := by
      cases t with
      | nil => rfl
      | @cons k _ _ _ _ _ _ => cases k <;> rfl
    rw [e]
    exact .base (.dK (s _ _ h))
  | dT h t => exact .base (.dT (s _ _ h))
  | kt h t =>
    obtain ⟨o, its, n, h1, h2, _⟩ := h
    exact .kTuple h1 h2
def eIsi (t : Ty) (f : EM) : EM := fun e => (f e).bind fun x e1 => .ok (.bool (isiD x t)) e1
section
variable {X : Cx} {W : WX} {a b : Expr} {f : EM} {pos : Pos}
theorem d_isi (t : Ty) {T : Str} {p p2 : Pos} (hm : X.mg "isinstance" = none) (hmT : X.mg T = none) (hv : bootBuiltins T = some (.type t.nm)) (ha : DE X W a f) (hg : Gl X "isinstance" := by rfl) (hgT : Gl X T := by rfl) (hn : T ≠ "__name__" := by decide) (hdT : (T == ("__debug__" : Str)) = false := by decide)
    (he : starEach (a :: [.Name T p2]) X.env = (false, eval a X.env) :: starEach [.Name T p2] X.env := by rfl) (he2 : starEach (Expr.Name T p2 :: []) X.env = (false, eval (.Name T p2) X.env) :: starEach [] X.env := by rfl) (hpl : (backTo pos (starEach [.Name T p2] X.env)).any (·.1) = false := by rfl) :
    DE X W (.Call (.Name "isinstance" p) [a, .Name T p2] [] pos) (eIsi t f) := by
  refine weakE (pe_callB call_isi hg hm (by decide +kernel) (pa_cons ha (pa_cons (pe_bltn (v := .ty t.nm) hgT hmT hv rfl hn hdT) pa_nil he2) he) (by decide) (by decide) he hpl) fun σ H Q ⟨G, F, env, j, h⟩ => ?_
  refine ⟨G, F, env, j, (PostR.bind h).imp fun x F1 H1 s1 ⟨e1, j1, p2⟩ v fv => ?_⟩
  exact ⟨v, .ty t.nm, .type (tyN x), .type t.nm, isiD x t, rfl, .ty _, tyX_of j1.sub fv, kit_ty (kit_isi x t), p2 F1 H1 (Same.refl F1) j1 _ (.bl _)⟩
end
/-! list(range(n)) -/
def rgOk (i j : Int) : Bool := decide (-(2 ^ 62) ≤ i) && decide (i < 2 ^ 62) && decide (-(2 ^ 62) ≤ j) && decide (j < 2 ^ 62) && decide ((j - i).toNat ≤ 2 ^ 24)
theorem rgOk_of {i j : Int} (h : rgOk i j = true) : RgOk i j := by
  unfold rgOk at h
  simp only [Bool.and_eq_true, decide_eq_true_eq] at h
  exact ⟨h.1.1.1.1, h.1.1.1.2, h.1.1.2, h.1.2, h.2⟩
def eLr1 (f : EM) : EM := fun e => (f e).bind fun x e1 => match intD x with
  | some j => if rgOk 0 j then .ok (.list (rngL 0 j)) e1 else .no
  | none => .no
def eLr2 (f g : EM) : EM := fun e => (f e).bind fun x e1 => (g e1).bind fun y e2 => match intD x, intD y with
  | some i, some j => if rgOk i j then .ok (.list (rngL i j)) e2 else .no
  | _, _ => .no
theorem fz_rg {K : PySem.W.Frag} {F : Hp} (i j : Int) : FzL K F (rgV i j) (rngL i j) := by
  unfold rgV rngL
  induction (List.range (j - i).toNat) with
  | nil => exact .nil
  | cons n r ih => exact .cons (.int _) ih
section
variable {X : Cx} {W : WX} {a b : Expr} {f g : EM} {pos : Pos}
theorem d_lr1 {p p2 pos2 : Pos} (hc : X.calm = true) (hl : X.mg "list" = none) (hm : X.mg "range" = none) (ha : DE X W a f) (hg : Gl X "list" := by rfl) (hg2 : Gl X "range" := by rfl) (na : starEach [a] X.env = (false, eval a X.env) :: starEach [] X.env := by rfl)
    (nb : starEach [.Call (.Name "range" p2) [a] [] pos2] X.env = (false, eval (.Call (.Name "range" p2) [a] [] pos2) X.env) :: starEach [] X.env := by rfl) : DE X W (.Call (.Name "list" p) [.Call (.Name "range" p2) [a] [] pos2] [] pos) (eLr1 f) := by
  refine weakE (pe_listRg hc hg hl (prg_1 hg2 hm ha na) nb) fun σ H Q ⟨G, F, env, j, h⟩ => ?_
  refine ⟨G, F, env, j, (PostR.bind h).imp fun x F1 H1 s1 ⟨e1, j1, p2⟩ v fv => ?_⟩
  cases hx : intD x with
  | none => simp only [hx] at p2; exact p2.elim
  | some i =>
    simp only [hx] at p2
    have := intD_some hx
    subst this
    cases fv
    by_cases h : rgOk 0 i = true
    · rw [if_pos h] at p2
      exact ⟨i, rfl, rgOk_of h, fun q hq => p2 _ _ (same_new (j1.free hq)) (j1.newF hq _) _ (.lst (.inl (.inl upd_same)) (fz_rg 0 i))⟩
    · rw [if_neg h] at p2
      exact p2.elim
theorem d_lr2 {p p2 pos2 : Pos} (hc : X.calm = true) (hl : X.mg "list" = none) (hm : X.mg "range" = none) (ha : DE X W a f) (hb : DE X W b g) (hg : Gl X "list" := by rfl) (hg2 : Gl X "range" := by rfl) (na : starEach [a, b] X.env = (false, eval a X.env) :: starEach [b] X.env := by rfl)
    (nb : starEach [b] X.env = (false, eval b X.env) :: starEach [] X.env := by rfl) (hp : (backTo pos2 (starEach [b] X.env)).any (·.1) = false := by rfl)
    (nc : starEach [.Call (.Name "range" p2) [a, b] [] pos2] X.env = (false, eval (.Call (.Name "range" p2) [a, b] [] pos2) X.env) :: starEach [] X.env := by rfl) : DE X W (.Call (.Name "list" p) [.Call (.Name "range" p2) [a, b] [] pos2] [] pos) (eLr2 f g) := by
  refine weakE (pe_listRg hc hg hl (prg_2 hg2 hm ha hb na nb hp) nc) fun σ H Q ⟨G, F, env, j, h⟩ => ?_
  refine ⟨G, F, env, j, (PostR.bind h).imp fun x F1 H1 s1 ⟨e1, j1, p2⟩ v fv => ?_⟩
  refine ⟨G, F1, e1, j1, (PostR.bind p2).imp fun y F2 H2 s2 ⟨e2, j2, p3⟩ w fw => ?_⟩
  cases hx : intD x with
  | none => simp only [hx] at p3; exact p3.elim
  | some i =>
    cases hy : intD y with
    | none => simp only [hx, hy] at p3; exact p3.elim
    | some k =>
      simp only [hx, hy] at p3
      have := intD_some hx
      subst this
      have := intD_some hy
      subst this
      cases fv
      cases fw
      by_cases h : rgOk i k = true
      · rw [if_pos h] at p3
        exact ⟨i, k, rfl, rfl, rgOk_of h, fun q hq => p3 _ _ (same_new (j2.free hq)) (j2.newF hq _) _ (.lst (.inl (.inl upd_same)) (fz_rg i k))⟩
      · rw [if_neg h] at p3
        exact p3.elim
end
end Ly

set_option autoImplicit false
set_option maxHeartbeats 4000000
namespace Ly
open PySem PySem.Spec L2
theorem fn_none {P : Program} {w : World} {K : PySem.W.Frag} {mg : MG} {base : Heap} {f : Addr} {fd : FuncData} {ps : List Str} {n k : Nat} {ks : List Nat} : FnOk P w K mg base (L2.CX P w) k f fd ps (spD K mg n ks fun _ => .no) := by
  have no : ∀ vs H Q E, ¬ spD K mg n ks (fun _ => .no) vs H Q E := fun vs H Q E h => by
    obtain ⟨_, _, _, _, _, _, _, _, _, p⟩ := h
    exact p.elim
  exact ⟨fun vs H Q E h => absurd h (no vs H Q E), fun A outer s H args us vs Q E _ _ _ _ h => absurd h (no vs H Q E)⟩
section
variable {X : Cx} {W : WX} {pos : Pos}
theorem d_gint {x : Str} {i : Int} {t : Tok} (hm : X.mg x = some (.int i t)) (hg : Gl X x := by rfl) (hd : (x == ("__debug__" : Str)) = false := by decide) : DE X W (.Name x pos) (eC (.int i)) :=
  dglob (v := .int i) hm ⟨t, rfl⟩ (fun _ => .int i) hg hd
theorem d_gstr {x : Str} {i : Str} {t : Tok} (hm : X.mg x = some (.str i t)) (hg : Gl X x := by rfl) (hd : (x == ("__debug__" : Str)) = false := by decide) : DE X W (.Name x pos) (eC (.str i)) :=
  dglob (v := .str i) hm ⟨t, rfl⟩ (fun _ => .str i) hg hd
end
/-! ## the end -/
theorem exm_pair {K : PySem.W.Frag} {C D : Addr} {b : Bool} (h1 : PySem.W.subIn K (.ref C) (.type "BaseException") = some true) (h1' : PySem.W.subIn K (.ref D) (.type "BaseException") = some true) (h2 : PySem.W.isClsIn K C = true)
    (h3 : PySem.W.typeIn K (.ref C) = some (.type "type")) (h2' : PySem.W.isClsIn K D = true) (h3' : PySem.W.typeIn K (.ref D) = some (.type "type")) (h4 : PySem.W.subIn K (.ref C) (.ref D) = some b) : PySem.W.exmOne K (.ref C) (.ref D) = some b := by
  have e1 : (PySem.W.subIn K (.ref D) (.type "BaseException") == some true) = true := by rw [h1'] <;> rfl
  have e2 : ((PySem.W.clsIn K D).isSome && PySem.W.typeIn K (.ref D) == some (.type "type")) = true := by
    have h2'' : (PySem.W.clsIn K D).isSome = true := h2'
    rw [h2'', h3'] <;> rfl
  show (if (PySem.W.subIn K (.ref D) (.type "BaseException") == some true) = true then (if ((PySem.W.clsIn K D).isSome && PySem.W.typeIn K (.ref D) == some (.type "type")) = true then PySem.W.subIn K (.ref C) (.ref D) else none) else none) = some b
  rw [if_pos e1, if_pos e2]
  exact h4
theorem sub_of {P : Str → Str → Bool → Prop} {L : List ((Str × Str) × Bool)} (h : ∀ p ∈ L, P p.1.1 p.1.2 p.2) : ∀ c h b, L.lookup (c, h) = some b → P c h b := by
  induction L with
  | nil => intro c h b e; cases e
  | cons p L ih =>
    intro c d b e
    obtain ⟨⟨c', d'⟩, b'⟩ := p
    rw [List.lookup_cons] at e
    cases q : ((c, d) == (c', d')) with
    | true =>
      rw [q] at e
      cases e
      have q' := eq_of_beq q
      cases q'
      exact h _ List.mem_cons_self
    | false =>
      rw [q] at e
      exact ih (fun p hp => h p (List.mem_cons_of_mem _ hp)) c d b e
def spLaw (K : PySem.W.Frag) : Sp := fun vs H Q _ => ∃ (a : Addr) (ns : List Int), vs = [.ref a] ∧ SqL K H a (ns.map V.int) ∧ ns.length ≤ 63 ∧ ∀ H', Q (.bl true) H'
theorem ints_fz {K : PySem.W.Frag} {F : Hp} : ∀ (ns : List Int), FzL K F (ns.map V.int) (ns.map PyData.int)
  | [] => .nil
  | n :: ns => .cons (.int n) (ints_fz ns)
def LawTrue (fn : FM) : Prop := ∀ ns : List Int, ns.length ≤ 63 → ∃ fin, fn [.fr (.list (ns.map .int))] = .ret (.bool true) fin
theorem law_sp {K : PySem.W.Frag} {mg : MG} {fn : FM} (h : LawTrue fn) : ∀ vs H Q E, spLaw K vs H Q E → spD K mg 1 [] fn vs H Q E := by
  rintro vs H Q E ⟨a, ns, rfl, hS, hl, k⟩
  obtain ⟨fin, hf⟩ := h ns hl
  refine ⟨H, [.fr (.list (ns.map .int))], fun _ _ => False, rfl, rfl, ?_, fun _ _ _ q => q.elim, fun _ _ q => q.elim, fun _ _ e => e, ?_⟩
  · intro i o e
    cases i with
    | zero =>
      cases Option.some.inj e
      exact ⟨_, rfl, .fr (.lst hS (ints_fz ns))⟩
    | succ i => cases e
  · rw [hf]
    intro F' H' v _ f
    cases f
    exact k H'
theorem walk_law {l : PySem.W.OpenLaw} {q : Program} {loose : List Str} {XP : (Str → Option Value) → Heap → Prop} {YP : World → Heap → Prop} {d : DefRec} {K : Params → PySem.W.Frag} {k : Nat} (hn : l.most = some 63) (hdf : d.params.defaults = []) (hr : Room k callerA)
    (hY : ∀ (w : World) (h : Heap), YP w h → (K w.params).In h)
    (F : ∀ (w : World) (mg : Str → Option Value) (fa : Addr) (h : Heap), (K w.params).In h → h.Ns mainGlobals mg → mg d.name = some (.ref fa) →
      ∃ fd : FuncData, (∀ (s : Shared) (u : Value), BindsTo s fd ⟨[u], []⟩ [("script", u)]) ∧ ∀ base : Heap, (K w.params).In base → base.Ns mainGlobals mg → FnOk l.prog w (K w.params) mg base (L2.CX l.prog w) k fa fd ["script"] (spLaw (K w.params))) :
    PySem.W.WalkO q loose XP YP l.row.toRowW d [] (fun f vs => PySem.call f vs) :=
  L2.walk_of (n := 63) (k := k) (x := "script") (CX := fun w => L2.CX l.prog w) (sp := fun w => spLaw (K w.params)) hn (by decide) hdf hr hY F (fun _ _ a ns hl _ hS => ⟨a, ns, rfl, hS, hl, fun _ => rfl⟩) fun w H s e s' z => by
    obtain ⟨_, _, _, _, _, _, _, _, _, _, _, _, z⟩ := z
    exact z
end Ly

set_option Elab.async false
set_option linter.all false
set_option maxRecDepth 100000
set_option maxHeartbeats 4000000
set_option autoImplicit false
namespace Ly
open PySem PySem.Spec L2
section
variable {α β : Type} {e : Ev} {c : Str}
@[simp] theorem bind_ok (a : α) (k : α → Ev → Res β) : Res.bind (.ok a e) k = k a e := rfl
@[simp] theorem bind_exc (k : α → Ev → Res β) : Res.bind (.exc c e) k = .exc c e := rfl
@[simp] theorem bind_no (k : α → Ev → Res β) : Res.bind .no k = .no := rfl
@[simp] theorem out_ok (a : α) (k : α → Ev → Out) : Res.out (.ok a e) k = k a e := rfl
@[simp] theorem out_exc (k : α → Ev → Out) : Res.out (.exc c e) k = .exc c e := rfl
@[simp] theorem out_no (k : α → Ev → Out) : Res.out .no k = .no := rfl
@[simp] theorem nox_ok (a : α) : Res.nox (.ok a e) = .ok a e := rfl
@[simp] theorem lift_some (a : α) : lift (some a) e = .ok a e := rfl
@[simp] theorem lift_none : lift (none : Option α) e = .no := rfl
end
section
variable {g : PyData → PyData → Option PyData} {a b c : EM} {e : Ev} {l : LM} {m : AM} {f f1 : EM} {t t1 : TM}
@[simp] theorem e1_ap {g : PyData → Option PyData} : e1 g a e = (a e).bind fun x e1 => lift (g x) e1 := rfl
@[simp] theorem e2_ap : e2 g a b e = (a e).bind fun x e1 => (b e1).bind fun y e2 => lift (g x y) e2 := rfl
@[simp] theorem eL_ap {g : List PyData → Option PyData} : eL g l e = (l e).bind fun xs e1 => lift (g xs) e1 := rfl
@[simp] theorem eS_ap {g : PyData → Option Int → Option Int → Option PyData} {lo hi : OM} : eS g a lo hi e = (a e).bind fun x e1 => (lo e1).bind fun l e2 => (hi e2).bind fun h e3 => lift (g x l h) e3 := rfl
@[simp] theorem eM_ap {ty : PyData → Bool} {g : PyData → List PyData → Option PyData} : eM ty g a l e = (a e).bind fun x e1 => if ty x then (l e1).bind fun xs e2 => lift (g x xs) e2 else .no := rfl
def getD (x : Option (Option O)) (e : Ev) : Res PyData := match x with
  | some (some (.fr d)) => .ok d e
  | _ => .no
@[simp] theorem getD_fr (d : PyData) : getD (some (some (.fr d))) e = .ok d e := rfl
@[simp] theorem eV_ap {i : Nat} : eV i e = getD e[i]? e := rfl
def getF (x : Option (Option O)) (i : Nat) (e : Ev) : Res PyData := match x with
  | some (some o) => (match o.fz with
    | some d => .ok d (e.set i (some (.fr d)))
    | none => .no)
  | _ => .no
@[simp] theorem eVF_ap {i : Nat} : eVF i e = getF e[i]? i e := rfl
theorem getF_some {i : Nat} {o : O} {d : PyData} (h : o.fz = some d) : getF (some (some o)) i e = .ok d (e.set i (some (.fr d))) := by
  unfold getF
  simp only [h]
@[simp] theorem eC_ap (d : PyData) : eC d e = .ok d e := rfl
@[simp] theorem toB_b (b : Bool) : toB (.bool b) e = .ok b e := rfl
@[simp] theorem t2_ap : t2 g a b e = (e2 g a b e).bind toB := rfl
@[simp] theorem eCh_ap {g' : PyData → PyData → Option PyData} : eCh g g' a b c e = (a e).bind fun x e1 => (b e1).bind fun y e2 => (lift (g x y) e2).bind fun z e3 => (toB z e3).bind fun k e4 => if k then (c e4).bind fun u e5 => lift (g' y u) e5 else .ok (.bool false) e4 := rfl
@[simp] theorem tB2_ap : tB2 f e = (f e).bind toB := rfl
@[simp] theorem tTru_ap : tTru f e = (f e).bind fun x e1 => lift (truD x) e1 := rfl
@[simp] theorem tAnd2_ap : tAnd2 t t1 e = (t e).bind fun c e1 => if c then t1 e1 else .ok false e1 := rfl
@[simp] theorem tOr2_ap : tOr2 t t1 e = (t e).bind fun c e1 => if c then .ok true e1 else t1 e1 := rfl
@[simp] theorem tNot2_ap : tNot2 t e = (t e).bind fun c e1 => .ok (!c) e1 := rfl
@[simp] theorem eIf_ap : eIf t f f1 e = (t e).bind fun b e1 => if b then f e1 else f1 e1 := rfl
@[simp] theorem eAnd_ap : eAnd f f1 e = (f e).bind fun x e1 => (lift (truD x) e1).bind fun k e2 => if k then f1 e2 else .ok x e2 := rfl
@[simp] theorem eOr_ap : eOr f f1 e = (f e).bind fun x e1 => (lift (truD x) e1).bind fun k e2 => if k then .ok x e2 else f1 e2 := rfl
@[simp] theorem eNot_ap : eNot f e = (f e).bind fun x e1 => (lift (truD x) e1).bind fun k e2 => .ok (.bool (!k)) e2 := rfl
@[simp] theorem lNil_ap : lNil e = .ok [] e := rfl
@[simp] theorem lCons_ap : lCons f l e = (f e).bind fun x e1 => (l e1).bind fun xs e2 => .ok (x :: xs) e2 := rfl
@[simp] theorem aNil_ap : aNil e = .ok [] e := rfl
@[simp] theorem aCons_ap : aCons f m e = (f e).bind fun x e1 => (m e1).bind fun xs e2 => .ok (.inl x :: xs) e2 := rfl
@[simp] theorem eList_ap : eList l e = (l e).bind fun xs e1 => if xs.length ≤ sz then .ok (.list xs) e1 else .no := rfl
@[simp] theorem eTup_ap : eTup l e = (l e).bind fun xs e1 => if xs.length ≤ sz then .ok (.tuple xs) e1 else .no := rfl
@[simp] theorem oN_ap : oN e = .ok none e := rfl
@[simp] theorem oS_int {i : Int} {e1 : Ev} (h : f e = .ok (.int i) e1) : oS f e = .ok (some i) e1 := by
  unfold oS
  rw [h]
  rfl
@[simp] theorem eIsi_ap (t : Ty) : eIsi t f e = (f e).bind fun x e1 => .ok (.bool (isiD x t)) e1 := rfl
@[simp] theorem isi_int (i : Int) : isiD (.int i) .int = true := rfl
@[simp] theorem isi_intb (i : Int) : isiD (.int i) .bool = false := rfl
@[simp] theorem isi_ints (i : Int) : isiD (.int i) .str = false := rfl
@[simp] theorem isi_intl (i : Int) : isiD (.int i) .list = false := rfl
@[simp] theorem isi_intt (i : Int) : isiD (.int i) .tuple = false := rfl
@[simp] theorem isi_intd (i : Int) : isiD (.int i) .dict = false := rfl
@[simp] theorem isi_strs (x : Str) : isiD (.str x) .str = true := rfl
@[simp] theorem isi_stri (x : Str) : isiD (.str x) .int = false := rfl
@[simp] theorem isi_strb (x : Str) : isiD (.str x) .bool = false := rfl
@[simp] theorem isi_strl (x : Str) : isiD (.str x) .list = false := rfl
@[simp] theorem isi_strt (x : Str) : isiD (.str x) .tuple = false := rfl
@[simp] theorem isi_strd (x : Str) : isiD (.str x) .dict = false := rfl
@[simp] theorem isi_listl (x : List PyData) : isiD (.list x) .list = true := rfl
@[simp] theorem isi_listi (x : List PyData) : isiD (.list x) .int = false := rfl
@[simp] theorem isi_listb (x : List PyData) : isiD (.list x) .bool = false := rfl
@[simp] theorem isi_lists (x : List PyData) : isiD (.list x) .str = false := rfl
@[simp] theorem isi_listt (x : List PyData) : isiD (.list x) .tuple = false := rfl
@[simp] theorem isi_listd (x : List PyData) : isiD (.list x) .dict = false := rfl
@[simp] theorem isi_tupt (x : List PyData) : isiD (.tuple x) .tuple = true := rfl
@[simp] theorem isi_tupi (x : List PyData) : isiD (.tuple x) .int = false := rfl
@[simp] theorem isi_tupb (x : List PyData) : isiD (.tuple x) .bool = false := rfl
@[simp] theorem isi_tups (x : List PyData) : isiD (.tuple x) .str = false := rfl
@[simp] theorem isi_tupl (x : List PyData) : isiD (.tuple x) .list = false := rfl
@[simp] theorem isi_tupd (x : List PyData) : isiD (.tuple x) .dict = false := rfl
@[simp] theorem isi_booli (x : Bool) : isiD (.bool x) .int = true := rfl
@[simp] theorem isi_boolb (x : Bool) : isiD (.bool x) .bool = true := rfl
@[simp] theorem isi_bools (x : Bool) : isiD (.bool x) .str = false := rfl
@[simp] theorem isi_booll (x : Bool) : isiD (.bool x) .list = false := rfl
@[simp] theorem isi_boolt (x : Bool) : isiD (.bool x) .tuple = false := rfl
@[simp] theorem isi_boold (x : Bool) : isiD (.bool x) .dict = false := rfl
theorem isi_non (t : Ty) : isiD .none t = false := by cases t <;> rfl
@[simp] theorem tru_b (b : Bool) : truD (.bool b) = some b := rfl
@[simp] theorem tru_n : truD .none = some false := rfl
end
/-! statements -/
def Out.seq (o : Out) (h : SM) : Out := match o with
  | .nx e1 => h e1
  | .rt d e1 => .rt d e1
  | .bk e1 => .bk e1
  | .ct e1 => .ct e1
  | .exc c e1 => .exc c e1
  | .no => .no
def Out.fr (o : Out) : FR := match o with
  | .nx e => .ret .none e
  | .rt d e => .ret d e
  | .exc c e => .exc c e
  | _ => .no
def FR.back (r : FR) (ks : List Nat) (its : List Item) (e : Ev) : Res PyData := match r with
  | .ret d fin => .ok d (backA ks fin 0 its e)
  | .exc c fin => .exc c (backA ks fin 0 its e)
  | .no => .no
section
variable {g h : SM} {e : Ev} {f : EM} {t : TM} {u : UM} {it l : LM} {n : Nat} {ks : List Nat} {fn : FM} {m : AM}
@[simp] theorem seq_nx : Out.seq (.nx e) h = h e := rfl
@[simp] theorem seq_rt (d : PyData) : Out.seq (.rt d e) h = .rt d e := rfl
@[simp] theorem seq_bk : Out.seq (.bk e) h = .bk e := rfl
@[simp] theorem seq_ct : Out.seq (.ct e) h = .ct e := rfl
@[simp] theorem seq_exc (c : Str) : Out.seq (.exc c e) h = .exc c e := rfl
@[simp] theorem seq_no : Out.seq .no h = .no := rfl
@[simp] theorem sSeq_ap : sSeq g h e = (g e).seq h := by
  unfold sSeq Out.seq
  cases g e <;> rfl
@[simp] theorem sNx_ap : sNx e = .nx e := rfl
@[simp] theorem sBk_ap : sBk e = .bk e := rfl
@[simp] theorem sCt_ap : sCt e = .ct e := rfl
@[simp] theorem sRt_ap : sRt f e = (f e).out fun d e1 => .rt d e1 := rfl
@[simp] theorem sRtN_ap : sRtN e = .rt .none e := rfl
@[simp] theorem sEx_ap : sEx f e = (f e).out fun _ e1 => .nx e1 := rfl
@[simp] theorem sSt_ap {i : Nat} : sSt i f e = (f e).out fun d e1 => .nx (e1.set i (some (.fr d))) := rfl
@[simp] theorem sIf_ap : sIf t g h e = (t e).out fun b e1 => if b then g e1 else h e1 := rfl
@[simp] theorem sRaise_ap (c : Str) : sRaise c e = .exc c e := rfl
@[simp] theorem sFor_ap : sFor it u g e = (it e).out fun ds e1 => forL u g ds e1 := rfl
def upO (o : Option (List (Nat × PyData))) (e : Ev) : Out := match o with
  | some as => .nx (setEv e as)
  | none => .no
@[simp] theorem upO_some (as : List (Nat × PyData)) : upO (some as) e = .nx (setEv e as) := rfl
@[simp] theorem sUp_ap : sUp u f e = (f e).out fun d e1 => upO (u d) e1 := by
  unfold sUp
  cases f e <;> rfl
@[simp] theorem setEv_nil : setEv e [] = e := rfl
@[simp] theorem setEv_cons (i : Nat) (d : PyData) (r : List (Nat × PyData)) : setEv e ((i, d) :: r) = setEv (e.set i (some (.fr d))) r := rfl
@[simp] theorem uN_ap (i : Nat) (d : PyData) : uN i d = some [(i, d)] := rfl
@[simp] theorem uT_ap (us : UMs) (ds : List PyData) (hl : ds.length = n) : uT n us (.tuple ds) = us ds := by
  unfold uT
  exact if_pos hl
@[simp] theorem usN_ap : usN [] = some [] := rfl
@[simp] theorem usC_ap {us : UMs} (d : PyData) (r : List PyData) {a b : List (Nat × PyData)} (h1 : u d = some a) (h2 : us r = some b) : usC u us (d :: r) = some (a ++ b) := by
  unfold usC
  simp only [h1, h2]
@[simp] theorem iL_ap {g : List PyData → Option (List PyData)} : iL g l e = (l e).bind fun xs e1 => lift (g xs) e1 := rfl
@[simp] theorem itm_ap : itm f e = (f e).bind fun d e1 => lift (itemsD d) e1 := rfl
@[simp] theorem items_l (ds : List PyData) : itemsD (.list ds) = some ds := rfl
@[simp] theorem items_t (ds : List PyData) : itemsD (.tuple ds) = some ds := rfl
@[simp] theorem fr_nx : Out.fr (.nx e) = .ret .none e := rfl
@[simp] theorem fr_rt (d : PyData) : Out.fr (.rt d e) = .ret d e := rfl
@[simp] theorem fr_exc (c : Str) : Out.fr (.exc c e) = .exc c e := rfl
@[simp] theorem body_ap {N : Nat} (os : List O) : bodyFn N g os = (g (os.map some ++ List.replicate (N - os.length) none)).fr := by
  unfold bodyFn Out.fr
  cases g (os.map some ++ List.replicate (N - os.length) none) <;> rfl
@[simp] theorem back_ret (d : PyData) (fin : Ev) (its : List Item) : FR.back (.ret d fin) ks its e = .ok d (backA ks fin 0 its e) := rfl
@[simp] theorem back_exc (c : Str) (fin : Ev) (its : List Item) : FR.back (.exc c fin) ks its e = .exc c (backA ks fin 0 its e) := rfl
@[simp] theorem call_ap : eCall n ks fn m e = (m e).bind fun its e1 => (argsOf e1 its).elim .no fun os => if its.length = n ∧ ndIo its = true then (fn os).back ks its e1 else .no := by
  unfold eCall
  congr 1
  funext its e1
  cases argsOf e1 its with
  | none => rfl
  | some os =>
    show (if _ then _ else _) = (if _ then _ else _)
    by_cases h : its.length = n ∧ ndIo its = true
    · rw [if_pos h, if_pos h]
      unfold FR.back
      cases fn os <;> rfl
    · rw [if_neg h, if_neg h]
@[simp] theorem args_nil : argsOf e [] = some [] := rfl
@[simp] theorem args_inl (d : PyData) (r : List Item) : argsOf e (.inl d :: r) = (argsOf e r).map (O.fr d :: ·) := rfl
@[simp] theorem args_inr {i : Nat} {o : O} (r : List Item) (h : e[i]? = some (some o)) : argsOf e (.inr i :: r) = (argsOf e r).map (o :: ·) := by
  show (match e[i]? with
    | some (some o) => (argsOf e r).map (o :: ·)
    | _ => none) = _
  rw [h]
@[simp] theorem nd_nil : ndIo [] = true := rfl
@[simp] theorem nd_inl (d : PyData) (r : List Item) : ndIo (.inl d :: r) = ndIo r := rfl
@[simp] theorem nd_inr (i : Nat) (r : List Item) : ndIo (.inr i :: r) = ((r.all fun t => match t with
    | .inr k => !decide (k = i)
    | .inl _ => true) && ndIo r) := rfl
@[simp] theorem backA_nil (fin : Ev) (j : Nat) : backA ks fin j [] e = e := rfl
@[simp] theorem backA_inl (fin : Ev) (j : Nat) (d : PyData) (r : List Item) : backA ks fin j (.inl d :: r) e = backA ks fin (j + 1) r e := rfl
@[simp] theorem backA_inr (fin : Ev) (j i : Nat) (r : List Item) : backA ks fin j (.inr i :: r) e = backA ks fin (j + 1) r (e.set i (if j ∈ ks then (fin[j]?).join else none)) := rfl
@[simp] theorem aIo_ap {i : Nat} {o : O} (h : e[i]? = some (some o)) : aIo i m e = (m e).bind fun xs e2 => .ok (.inr i :: xs) e2 := by
  unfold aIo
  rw [h]
@[simp] theorem sStL_ap {i : Nat} : sStL i l e = (l e).out fun ds e1 => if ds.length ≤ sz then .nx (e1.set i (some (.nd .lst (ds.map .fr)))) else .no := rfl
@[simp] theorem eLenO_ap {i : Nat} {xs : List O} (h : e[i]? = some (some (.nd .lst xs))) : eLenO i e = .ok (.int xs.length) e := by
  unfold eLenO lstAt
  rw [h]
theorem sApp_at {i : Nat} {xs : List PyData} {d : PyData} (h : e[i]? = some (some (.nd .lst (xs.map .fr)))) (hl : l e = .ok [d] e) (hs : xs.length < sz) : sApp i l e = .nx (e.set i (some (.nd .lst ((xs ++ [d]).map .fr)))) := by
  have h1 : lstAt e i = some (xs.map .fr) := by unfold lstAt; rw [h]
  unfold sApp
  rw [h1]
  show (l e).out _ = _
  rw [hl]
  show (match lstAt e i with
      | some xs => if xs.length < sz then Out.nx (e.set i (some (.nd .lst (xs ++ [O.fr d])))) else Out.no
      | none => .no) = _
  rw [h1, List.map_append]
  exact if_pos (by rw [List.length_map]; exact hs)
theorem sApp_ap {i : Nat} {xs : List O} {d : PyData} (h : e[i]? = some (some (.nd .lst xs))) (hl : l e = .ok [d] e) (hs : xs.length < sz) : sApp i l e = .nx (e.set i (some (.nd .lst (xs ++ [.fr d])))) := by
  have h1 : lstAt e i = some xs := by unfold lstAt; rw [h]
  unfold sApp
  rw [h1]
  show (l e).out _ = _
  rw [hl]
  show (match lstAt e i with
      | some xs => if xs.length < sz then Out.nx (e.set i (some (.nd .lst (xs ++ [O.fr d])))) else Out.no
      | none => .no) = _
  rw [h1]
  exact if_pos hs
theorem eIxO_ap {i : Nat} {xs : List O} {z : Int} {d : PyData} (h : e[i]? = some (some (.nd .lst xs))) (hf : f e = .ok (.int z) e) (hx : atI xs z = some (.fr d)) : eIxO i f e = .ok d e := by
  have h1 : lstAt e i = some xs := by unfold lstAt; rw [h]
  unfold eIxO
  rw [h1]
  show (f e).bind _ = _
  rw [hf]
  show (match lstAt e i with
      | some xs => lift (frD (atI xs z)) e
      | none => .no) = _
  rw [h1]
  show lift (frD (atI xs z)) e = _
  rw [hx]
  rfl
theorem sSix_ap {i : Nat} {f1 : EM} {xs : List O} {d : PyData} {z : Int} {j : Nat} (h : e[i]? = some (some (.nd .lst xs))) (hv : f1 e = .ok d e) (hf : f e = .ok (.int z) e) (hx : ixN xs.length z = some j) : sSix i f f1 e = .nx (e.set i (some (.nd .lst (xs.set j (.fr d))))) := by
  have h1 : lstAt e i = some xs := by unfold lstAt; rw [h]
  unfold sSix
  rw [hv]
  show (match lstAt e i with
  | some _ => (f e).out fun k e2 => (match intD k with
    | some z => (match lstAt e2 i with
      | some xs => (match ixN xs.length z with
        | some j => Out.nx (e2.set i (some (.nd .lst (xs.set j (.fr d)))))
        | none => .no)
      | none => .no)
    | none => .no)
  | none => .no) = _
  rw [h1]
  show (f e).out _ = _
  rw [hf]
  show (match lstAt e i with
      | some xs => (match ixN xs.length z with
        | some j => Out.nx (e.set i (some (.nd .lst (xs.set j (.fr d)))))
        | none => .no)
      | none => .no) = _
  rw [h1]
  show (match ixN xs.length z with
        | some j => Out.nx (e.set i (some (.nd .lst (xs.set j (.fr d)))))
        | none => .no) = _
  rw [hx]
/-! loops -/
/-- a turn of a loop goes on, and P holds behind it -/
def Out.go (o : Out) (P : Ev → Prop) : Prop := match o with
  | .nx e => P e
  | .ct e => P e
  | _ => False
@[simp] theorem go_nx (P : Ev → Prop) : Out.go (.nx e) P = P e := rfl
@[simp] theorem go_ct (P : Ev → Prop) : Out.go (.ct e) P = P e := rfl
theorem go_of {o : Out} {P : Ev → Prop} (h : o.go P) : ∃ e, (o = .nx e ∨ o = .ct e) ∧ P e := by
  cases o with
  | nx e => exact ⟨e, .inl rfl, h⟩
  | ct e => exact ⟨e, .inr rfl, h⟩
  | _ => exact h.elim
theorem for_nx {u : UM} {g : SM} (I : Nat → Ev → Prop) : ∀ (ds : List PyData) (k : Nat) (e : Ev), (∀ i d e, ds[i]? = some d → I (k + i) e → ∃ as, u d = some as ∧ (g (setEv e as)).go (I (k + i + 1))) → I k e →
    ∃ e', forL u g ds e = .nx e' ∧ I (k + ds.length) e'
  | [], k, e, _, h0 => ⟨e, rfl, h0⟩
  | d :: ds, k, e, h, h0 => by
    obtain ⟨as, hu, hgo⟩ := h 0 d e rfl h0
    obtain ⟨e1, hg, h1⟩ := go_of hgo
    obtain ⟨e', q1, q2⟩ := for_nx I ds (k + 1) e1 (fun i d e hi hI => by
      have hI' : I (k + (i + 1)) e := by rw [show k + (i + 1) = k + 1 + i by omega]; exact hI
      have := h (i + 1) d e hi hI'
      rw [show k + (i + 1) + 1 = k + 1 + i + 1 by omega] at this
      exact this) h1
    refine ⟨e', ?_, by rw [List.length_cons, show k + (ds.length + 1) = k + 1 + ds.length by omega]; exact q2⟩
    show (match u d with
    | none => Out.no
    | some as => match g (setEv e as) with
      | .nx e1 => forL u g ds e1
      | .ct e1 => forL u g ds e1
      | .bk e1 => .nx e1
      | .rt d e1 => .rt d e1
      | .exc c e1 => .exc c e1
      | .no => .no) = _
    rw [hu]
    rcases hg with hg | hg
    · show (match g (setEv e as) with
      | .nx e1 => forL u g ds e1
      | .ct e1 => forL u g ds e1
      | .bk e1 => .nx e1
      | .rt d e1 => .rt d e1
      | .exc c e1 => .exc c e1
      | .no => .no) = _
      rw [hg]
      exact q1
    · show (match g (setEv e as) with
      | .nx e1 => forL u g ds e1
      | .ct e1 => forL u g ds e1
      | .bk e1 => .nx e1
      | .rt d e1 => .rt d e1
      | .exc c e1 => .exc c e1
      | .no => .no) = _
      rw [hg]
      exact q1
/-- the same from 0 -/
theorem for_nx0 {u : UM} {g : SM} (I : Nat → Ev → Prop) {ds : List PyData} {e : Ev} (h : ∀ i d e, ds[i]? = some d → I i e → ∃ as, u d = some as ∧ (g (setEv e as)).go (I (i + 1))) (h0 : I 0 e) :
    ∃ e', forL u g ds e = .nx e' ∧ I ds.length e' := by
  have := for_nx I ds 0 e (fun i d e hi hI => by rw [Nat.zero_add] at hI ⊢; exact h i d e hi hI) h0
  rw [Nat.zero_add] at this
  exact this
/-- a loop whose invariant hangs on no number -/
theorem for_inv {u : UM} {g : SM} (I : Ev → Prop) {ds : List PyData} {e : Ev} (h : ∀ d ∈ ds, ∀ e, I e → ∃ as, u d = some as ∧ (g (setEv e as)).go I) (h0 : I e) : ∃ e', forL u g ds e = .nx e' ∧ I e' :=
  for_nx0 (fun _ => I) (fun i d e hi hI => h d (List.mem_of_getElem? hi) e hI) h0
/-- a while loop: I k e, at most k more turns -/
theorem wh_nx {c : TM} {g : SM} (I : Nat → Ev → Prop) (P : Ev → Prop) (h : ∀ k e, I k e → (∃ e1, c e = .ok false e1 ∧ P e1) ∨ (∃ k' e1, k = k' + 1 ∧ c e = .ok true e1 ∧ (g e1).go (I k'))) :
    ∀ (n k : Nat) (e : Ev), k < n → I k e → ∃ e', sWh n c g e = .nx e' ∧ P e'
  | 0, k, e, hk, _ => absurd hk (by omega)
  | n + 1, k, e, hk, hI => by
    rcases h k e hI with ⟨e1, hc, hp⟩ | ⟨k', e1, rfl, hc, hgo⟩
    · refine ⟨e1, ?_, hp⟩
      show (c e).out _ = _
      rw [hc]
      rfl
    · obtain ⟨e2, hg, hI'⟩ := go_of hgo
      obtain ⟨e', q1, q2⟩ := wh_nx I P h n k' e2 (by omega) hI'
      refine ⟨e', ?_, q2⟩
      show (c e).out _ = _
      rw [hc]
      rcases hg with hg | hg
      · show (match g e1 with
      | .nx e2 => sWh n c g e2
      | .ct e2 => sWh n c g e2
      | .bk e2 => .nx e2
      | .rt d e2 => .rt d e2
      | .exc c e2 => .exc c e2
      | .no => .no) = _
        rw [hg]
        exact q1
      · show (match g e1 with
      | .nx e2 => sWh n c g e2
      | .ct e2 => sWh n c g e2
      | .bk e2 => .nx e2
      | .rt d e2 => .rt d e2
      | .exc c e2 => .exc c e2
      | .no => .no) = _
        rw [hg]
        exact q1
theorem comp_map {u : UM} {f : EM} {own : List Nat} {y : PyData → PyData} {e0 : Ev} : ∀ (ds : List PyData), (∀ d ∈ ds, ∃ as e3, u d = some as ∧ f (setEv e0 as) = .ok (y d) e3 ∧ wipeE e3 own = e0) → compL u tT f own ds e0 = .ok (ds.map y) e0
  | [], _ => rfl
  | d :: ds, h => by
    obtain ⟨as, e3, h1, h2, h3⟩ := h d List.mem_cons_self
    have ih := comp_map ds fun d hd => h d (List.mem_cons_of_mem _ hd)
    show (match u d with
    | none => Res.no
    | some as => (tT (setEv e0 as)).nox.bind fun b e2 => if b then (f e2).nox.bind fun y e3 => (compL u tT f own ds (wipeE e3 own)).bind fun ys e4 => .ok (y :: ys) e4 else compL u tT f own ds (wipeE e2 own)) = _
    rw [h1]
    show (f (setEv e0 as)).nox.bind _ = _
    rw [h2]
    show (compL u tT f own ds (wipeE e3 own)).bind _ = _
    rw [h3, ih]
    rfl
@[simp] theorem eComp_ap {own : List Nat} : eComp it u t f own e = (it e).bind fun ds e1 => if ds.length ≤ sz then (compL u t f own ds (wipeE e1 own)).bind fun ys e2 => .ok (.list ys) (restE own e1 e2) else .no := rfl
@[simp] theorem wipe_nil : wipeE e [] = e := rfl
@[simp] theorem wipe_cons (v : Nat) (vs : List Nat) : wipeE e (v :: vs) = (wipeE e vs).set v none := rfl
@[simp] theorem rest_nil (e1 : Ev) : restE [] e1 e = e := rfl
@[simp] theorem rest_cons (i : Nat) (is : List Nat) (e1 : Ev) : restE (i :: is) e1 e = (restE is e1 e).set i (frO e1[i]?) := rfl
@[simp] theorem frO_none : frO (some none) = none := rfl
@[simp] theorem frO_fr (d : PyData) : frO (some (some (.fr d))) = some (.fr d) := rfl
end
def Out.lp (o : Out) (k : SM) : Out := match o with
  | .nx e => k e
  | .ct e => k e
  | .bk e => .nx e
  | .rt d e => .rt d e
  | .exc c e => .exc c e
  | .no => .no
section
variable {g : SM} {e : Ev} {c : TM} {u : UM} {k : SM}
@[simp] theorem lp_nx : Out.lp (.nx e) k = k e := rfl
@[simp] theorem lp_ct : Out.lp (.ct e) k = k e := rfl
@[simp] theorem lp_bk : Out.lp (.bk e) k = .nx e := rfl
@[simp] theorem lp_rt (d : PyData) : Out.lp (.rt d e) k = .rt d e := rfl
@[simp] theorem lp_exc (c : Str) : Out.lp (.exc c e) k = .exc c e := rfl
theorem wh_step (n : Nat) : sWh (n + 1) c g e = (c e).out fun b e1 => if b then (g e1).lp (sWh n c g) else .nx e1 := by
  show (c e).out _ = _
  refine congrArg (Res.out (c e)) ?_
  funext b e1
  cases b
  · rfl
  · show (match g e1 with
      | .nx e2 => sWh n c g e2
      | .ct e2 => sWh n c g e2
      | .bk e2 => .nx e2
      | .rt d e2 => .rt d e2
      | .exc c e2 => .exc c e2
      | .no => .no) = (g e1).lp (sWh n c g)
    cases g e1 <;> rfl
theorem forL_nil : forL u g [] e = .nx e := rfl
theorem forL_cons {as : List (Nat × PyData)} (d : PyData) (ds : List PyData) (h : u d = some as) : forL u g (d :: ds) e = (g (setEv e as)).lp (forL u g ds) := by
  show (match u d with
    | none => Out.no
    | some as => match g (setEv e as) with
      | .nx e1 => forL u g ds e1
      | .ct e1 => forL u g ds e1
      | .bk e1 => .nx e1
      | .rt d e1 => .rt d e1
      | .exc c e1 => .exc c e1
      | .no => .no) = _
  rw [h]
  show (match g (setEv e as) with
      | .nx e1 => forL u g ds e1
      | .ct e1 => forL u g ds e1
      | .bk e1 => .nx e1
      | .rt d e1 => .rt d e1
      | .exc c e1 => .exc c e1
      | .no => .no) = _
  cases g (setEv e as) <;> rfl
end
/-! operations -/
@[simp] theorem gAdd_i (i j : Int) : gAdd (.int i) (.int j) = some (.int (i + j)) := rfl
@[simp] theorem gSub_i (i j : Int) : gSub (.int i) (.int j) = some (.int (i - j)) := rfl
theorem gMul_l {i : Int} (j : Int) (h : in64 i = true) : gMul (.int i) (.int j) = some (.int (i * j)) := by
  show (if (in64 i || in64 j) = true then some (PyData.int (i * j)) else none) = _
  rw [h]
  rfl
theorem gMul_r (i : Int) {j : Int} (h : in64 j = true) : gMul (.int i) (.int j) = some (.int (i * j)) := by
  show (if (in64 i || in64 j) = true then some (PyData.int (i * j)) else none) = _
  rw [h, Bool.or_true]
  rfl
theorem gMod_i (i : Int) {j : Int} (h : 0 < j) : gMod (.int i) (.int j) = some (.int (i % j)) := if_pos h
theorem gDiv_i (i : Int) {j : Int} (h : 0 < j ∧ j < 1073741824) : gDiv (.int i) (.int j) = some (.int (i / j)) := if_pos h
@[simp] theorem gNeg_i (i : Int) : gNeg (.int i) = some (.int (-i)) := rfl
@[simp] theorem gLt_i (i j : Int) : gLt (.int i) (.int j) = some (.bool (decide (i < j))) := rfl
@[simp] theorem gLe_i (i j : Int) : gLe (.int i) (.int j) = some (.bool (decide (i ≤ j))) := rfl
@[simp] theorem gGt_i (i j : Int) : gGt (.int i) (.int j) = some (.bool (decide (j < i))) := rfl
@[simp] theorem gGe_i (i j : Int) : gGe (.int i) (.int j) = some (.bool (decide (j ≤ i))) := rfl
@[simp] theorem gLen_l (ds : List PyData) : gLen [.list ds] = some (.int ds.length) := rfl
@[simp] theorem gLen_t (ds : List PyData) : gLen [.tuple ds] = some (.int ds.length) := rfl
@[simp] theorem gIx_l (ds : List PyData) (i : Int) : gIx (.list ds) (.int i) = atI ds i := rfl
@[simp] theorem gIx_t (ds : List PyData) (i : Int) : gIx (.tuple ds) (.int i) = atI ds i := rfl
@[simp] theorem gSl_l (ds : List PyData) (lo hi : Option Int) : gSl (.list ds) lo hi = some (.list (cutD ds lo hi)) := rfl
theorem gAdd_l {xs ys : List PyData} (h : xs.length + ys.length ≤ sz) : gAdd (.list xs) (.list ys) = some (.list (xs ++ ys)) := if_pos h
theorem in64_i {i : Int} (h1 : -(2 ^ 64) < i) (h2 : i < 2 ^ 64) : in64 i = true := by
  unfold in64
  rw [decide_eq_true h1, decide_eq_true h2]
  rfl
@[simp] theorem gEq_i (i j : Int) : gEq (.int i) (.int j) = some (.bool (decide (i = j))) := by
  show some (PyData.bool (decide (i = j))) = _
  rfl
theorem fzL_frs : ∀ (ds : List PyData), fzL (ds.map .fr) = some ds
  | [] => by rw [List.map_nil, fzL]
  | d :: ds => by
    rw [List.map_cons, fzL, fzL_frs ds, O.fz]
@[simp] theorem fz_frs (ds : List PyData) : O.fz (.nd .lst (ds.map .fr)) = some (.list ds) := by
  rw [O.fz, fzL_frs]
  rfl
@[simp] theorem fz_fr (d : PyData) : O.fz (.fr d) = some d := by rw [O.fz]
@[simp] theorem getF_lst {i : Nat} {e : Ev} (ds : List PyData) : getF (some (some (.nd .lst (ds.map .fr)))) i e = .ok (.list ds) (e.set i (some (.fr (.list ds)))) := getF_some (fz_frs ds)
@[simp] theorem getF_fr {i : Nat} {e : Ev} (d : PyData) : getF (some (some (.fr d))) i e = .ok d (e.set i (some (.fr d))) := getF_some (fz_fr d)
theorem atI_int {α : Type} {xs : List α} {i : Int} {v : α} (h0 : 0 ≤ i) (h : xs[i.toNat]? = some v) : atI xs i = some v := by
  have := atI_nat h
  rw [Int.toNat_of_nonneg h0] at this
  exact this
theorem cut_to {α : Type} (xs : List α) {p : Int} (h : 0 ≤ p) : cutD xs none (some p) = xs.take p.toNat := by
  obtain ⟨k, rfl⟩ := Int.eq_ofNat_of_zero_le h
  unfold cutD
  rw [HT.sIx_none, HT.sIx_nat, List.drop_zero, Nat.sub_zero, Int.toNat_natCast]
  exact (List.take_eq_take_iff).mpr (by omega)
theorem cut_from {α : Type} (xs : List α) {p : Int} (h : 0 ≤ p) : cutD xs (some p) none = xs.drop p.toNat := by
  obtain ⟨k, rfl⟩ := Int.eq_ofNat_of_zero_le h
  unfold cutD
  rw [HT.sIx_none, HT.sIx_nat, Int.toNat_natCast]
  by_cases c : k ≤ xs.length
  · rw [Nat.min_eq_left c]
    exact List.take_of_length_le (by rw [List.length_drop]; omega)
  · rw [Nat.min_eq_right (by omega), List.drop_of_length_le (by omega), List.drop_of_length_le (by omega)]
    exact List.take_nil
@[simp] theorem rngL_len (lo hi : Int) : (rngL lo hi).length = (hi - lo).toNat := by
  unfold rngL
  rw [List.length_map, List.length_range]
theorem rng1_i {j : Int} (h1 : -(2 ^ 62) ≤ j) (h2 : j < 2 ^ 62) : rng1 [.int j] = some (rngL 0 j) := by
  show (if bnd62 j = true then _ else _) = _
  unfold bnd62
  rw [decide_eq_true h1, decide_eq_true h2]
  rfl
theorem rng2_i {i j : Int} (h1 : -(2 ^ 62) ≤ i) (h2 : i < 2 ^ 62) (h3 : -(2 ^ 62) ≤ j) (h4 : j < 2 ^ 62) : rng2 [.int i, .int j] = some (rngL i j) := by
  show (if (bnd62 i && bnd62 j) = true then _ else _) = _
  unfold bnd62
  rw [decide_eq_true h1, decide_eq_true h2, decide_eq_true h3, decide_eq_true h4]
  rfl
theorem eLr1_i {f : EM} {e e1 : Ev} {j : Int} (h : f e = .ok (.int j) e1) (hr : rgOk 0 j = true) : eLr1 f e = .ok (.list (rngL 0 j)) e1 := by
  unfold eLr1
  rw [h]
  show (if rgOk 0 j = true then _ else _) = _
  rw [if_pos hr]
theorem rgOk_i {i j : Int} (h1 : -(2 ^ 62) ≤ i) (h2 : i < 2 ^ 62) (h3 : -(2 ^ 62) ≤ j) (h4 : j < 2 ^ 62) (h5 : (j - i).toNat ≤ 2 ^ 24) : rgOk i j = true := by
  unfold rgOk
  rw [decide_eq_true h1, decide_eq_true h2, decide_eq_true h3, decide_eq_true h4, decide_eq_true h5]
  rfl
/-- the draws: the numbers of the script, the count -/
def Dr (xs : List Int) (k : Nat) : O := .nd .lst [.fr (.list (xs.map .int)), .fr (.int k)]
def N31 : Int := 2147483647
def mixd (n k : Int) : Int := ((n * 48271 + k * 69621 + 12345) % 2147483647 * ((n * 48271 + k * 69621 + 12345) % 2147483647 / 65536 + 3) + k) % 2147483647
theorem mixd_bd (n k : Int) : 0 ≤ mixd n k ∧ mixd n k < 2147483647 := by
  unfold mixd
  exact ⟨Int.emod_nonneg _ (by decide), Int.emod_lt_of_pos _ (by decide)⟩
theorem sTry_exc {sub : Str → Str → Option Bool} {g : SM} {hs : List (Str × SM)} {e e1 : Ev} {c : Str} (h : g e = .exc c e1) : sTry sub g hs e = hdl sub c hs e1 := by
  unfold sTry
  rw [h]
theorem sTry_nx {sub : Str → Str → Option Bool} {g : SM} {hs : List (Str × SM)} {e e1 : Ev} (h : g e = .nx e1) : sTry sub g hs e = .nx e1 := by
  unfold sTry
  rw [h]
theorem sTry_rt {sub : Str → Str → Option Bool} {g : SM} {hs : List (Str × SM)} {e e1 : Ev} {d : PyData} (h : g e = .rt d e1) : sTry sub g hs e = .rt d e1 := by
  unfold sTry
  rw [h]
theorem hdl_nx {sub : Str → Str → Option Bool} {s : SM} {r : List (Str × SM)} {e e1 : Ev} {c h : Str} (hh : sub c h = some true) (hs : s e = .nx e1) : hdl sub c ((h, s) :: r) e = .nx e1 := by
  unfold hdl
  rw [hh]
  show (match s e with
      | .exc _ _ => Out.no
      | .nx e1 => .nx e1
      | .rt d e1 => .rt d e1
      | .bk e1 => .bk e1
      | .ct e1 => .ct e1
      | .no => .no) = _
  rw [hs]
theorem hdl_rt {sub : Str → Str → Option Bool} {s : SM} {r : List (Str × SM)} {e e1 : Ev} {c h : Str} {d : PyData} (hh : sub c h = some true) (hs : s e = .rt d e1) : hdl sub c ((h, s) :: r) e = .rt d e1 := by
  unfold hdl
  rw [hh]
  show (match s e with
      | .exc _ _ => Out.no
      | .nx e1 => .nx e1
      | .rt d e1 => .rt d e1
      | .bk e1 => .bk e1
      | .ct e1 => .ct e1
      | .no => .no) = _
  rw [hs]
theorem hdl_skip {sub : Str → Str → Option Bool} {s : SM} {r : List (Str × SM)} {e : Ev} {c h : Str} (hh : sub c h = some false) : hdl sub c ((h, s) :: r) e = hdl sub c r e := by
  show (match sub c h with
    | some true => (match s e with
      | .exc _ _ => Out.no
      | .nx e1 => .nx e1
      | .rt d e1 => .rt d e1
      | .bk e1 => .bk e1
      | .ct e1 => .ct e1
      | .no => .no)
    | some false => hdl sub c r e
    | none => .no) = _
  rw [hh]
end Ly

set_option Elab.async false
set_option linter.all false
set_option maxRecDepth 100000
set_option maxHeartbeats 4000000
set_option autoImplicit false
namespace Ly
open PySem PySem.Spec L2
/-! ## texts: join, repetition -/
def strsD : List PyData → Option (List Str)
  | [] => some []
  | .str x :: r => (strsD r).map (x :: ·)
  | _ => none
theorem strsD_eq : ∀ {ds : List PyData} {ys : List Str}, strsD ds = some ys → ds = ys.map .str
  | [], ys, h => by cases h; rfl
  | d :: r, ys, h => by
    cases d with
    | str x =>
      have h : (strsD r).map (x :: ·) = some ys := h
      cases e : strsD r with
      | none => rw [e] at h; cases h
      | some zs =>
        rw [e] at h
        cases h
        rw [strsD_eq e]
        rfl
    | _ => cases h
@[simp] theorem strsD_map : ∀ (ys : List Str), strsD (ys.map .str) = some ys
  | [] => rfl
  | y :: ys => by
    show (strsD (ys.map .str)).map (y :: ·) = _
    rw [strsD_map ys]
    rfl
def intsD : List PyData → Option (List Int)
  | [] => some []
  | .int x :: r => (intsD r).map (x :: ·)
  | _ => none
theorem intsD_eq : ∀ {ds : List PyData} {ys : List Int}, intsD ds = some ys → ds = ys.map .int
  | [], ys, h => by cases h; rfl
  | d :: r, ys, h => by
    cases d with
    | int x =>
      have h : (intsD r).map (x :: ·) = some ys := h
      cases e : intsD r with
      | none => rw [e] at h; cases h
      | some zs =>
        rw [e] at h
        cases h
        rw [intsD_eq e]
        rfl
    | _ => cases h
@[simp] theorem intsD_map : ∀ (ys : List Int), intsD (ys.map .int) = some ys
  | [] => rfl
  | y :: ys => by
    show (intsD (ys.map .int)).map (y :: ·) = _
    rw [intsD_map ys]
    rfl
section
variable {K : PySem.W.Frag} {F : Hp}
theorem FzL.strs : ∀ {ys : List Str} {vs : List V}, FzL K F vs (ys.map .str) → vs = ys.map V.str
  | [], _, .nil => rfl
  | y :: ys, _, .cons (.str _) t => by rw [FzL.strs t]; rfl
theorem FzL.ints : ∀ {ys : List Int} {vs : List V}, FzL K F vs (ys.map .int) → vs = ys.map V.int
  | [], _, .nil => rfl
  | y :: ys, _, .cons (.int _) t => by rw [FzL.ints t]; rfl
theorem fz_strs : ∀ (ys : List Str), FzL K F (ys.map V.str) (ys.map .str)
  | [] => .nil
  | y :: ys => .cons (.str _) (fz_strs ys)
end
/-- a method of a text with one argument -/
def SndS1 (K : PySem.W.Frag) (r : V → List V → Hp → VK → Prop) (g : Str → PyData → Option PyData) : Prop :=
  ∀ F H z y b c Q, Same F H → Fz K F y b → g z b = some c → (∀ v F' H', Grow F H F' H' → Fz K F' v c → Q v H') → r (.str z) [y] H Q
def eM1 (g : Str → PyData → Option PyData) (a b : EM) : EM := fun e => (a e).bind fun x e1 => match x with
  | .str z => (b e1).bind fun y e2 => lift (g z y) e2
  | _ => .no
theorem canM1 {X : Cx} {W : WX} {r : V → List V → Hp → VK → Prop} {g : Str → PyData → Option PyData} {f1 f2 : EM} (hs : SndS1 X.K r g) (σ : St) (H : Hp) (Q : VK) (h : canE X W (eM1 g f1 f2) σ H Q) : tM1 r (canE X W f1) (canE X W f2) σ H Q := by
  obtain ⟨G, F, env, j, p⟩ := h
  refine ⟨G, F, env, j, p.bind.imp fun a F1 H1 s1 ⟨e1, j1, p2⟩ v fv => ?_⟩
  cases fv with
  | str z =>
    refine ⟨⟨z, rfl⟩, G, F1, e1, j1, (PostR.bind p2).imp fun b F2 H2 s2 ⟨e2, j2, p3⟩ w fw => ?_⟩
    exact lift_end j2 p3 fun c hg q => hs F2 H2 z w b c Q j2.sub fw hg q
  | _ => exact p2.elim
def gJoin (z : Str) (d : PyData) : Option PyData := match d with
  | .list ds => (strsD ds).bind fun ys => if (ys.map (·.length)).sum + ys.length * z.length ≤ sz then some (.str (Txt.join z ys)) else none
  | .tuple ds => (strsD ds).bind fun ys => if (ys.map (·.length)).sum + ys.length * z.length ≤ sz then some (.str (Txt.join z ys)) else none
  | _ => none
theorem n_join {K : PySem.W.Frag} : SndS1 K (fun x xs H Q => ∃ a p, ∃ ys : List Str, x = .str a ∧ xs = [.ref p] ∧ (SqL K H p (ys.map V.str) ∨ SqT K H p (ys.map V.str)) ∧
      (ys.map (·.length)).sum + ys.length * a.length ≤ 16777216 ∧ Q (.str (Txt.join a ys)) H) gJoin := by
  intro F H z y b c Q s fy hg q
  cases fy with
  | @lst a vs ds h1 t1 =>
    have hg : ((strsD ds).bind fun ys => if (ys.map (·.length)).sum + ys.length * z.length ≤ sz then some (PyData.str (Txt.join z ys)) else none) = some c := hg
    cases e : strsD ds with
    | none => rw [e] at hg; cases hg
    | some ys =>
      rw [e] at hg
      have hg : (if (ys.map (·.length)).sum + ys.length * z.length ≤ sz then some (PyData.str (Txt.join z ys)) else none) = some c := hg
      by_cases h : (ys.map (·.length)).sum + ys.length * z.length ≤ sz
      · rw [if_pos h] at hg
        cases hg
        have e2 := strsD_eq e
        subst e2
        obtain rfl := FzL.strs t1
        exact ⟨z, a, ys, rfl, rfl, .inl (s.seq h1), h, q _ F H .refl (.str _)⟩
      · rw [if_neg h] at hg; cases hg
  | @tup a vs ds h1 t1 =>
    have hg : ((strsD ds).bind fun ys => if (ys.map (·.length)).sum + ys.length * z.length ≤ sz then some (PyData.str (Txt.join z ys)) else none) = some c := hg
    cases e : strsD ds with
    | none => rw [e] at hg; cases hg
    | some ys =>
      rw [e] at hg
      have hg : (if (ys.map (·.length)).sum + ys.length * z.length ≤ sz then some (PyData.str (Txt.join z ys)) else none) = some c := hg
      by_cases h : (ys.map (·.length)).sum + ys.length * z.length ≤ sz
      · rw [if_pos h] at hg
        cases hg
        have e2 := strsD_eq e
        subst e2
        obtain rfl := FzL.strs t1
        exact ⟨z, a, ys, rfl, rfl, .inr (sameT s (.inl (.inl h1))), h, q _ F H .refl (.str _)⟩
      · rw [if_neg h] at hg; cases hg
  | _ => cases hg
section
variable {X : Cx} {W : WX} {a b o e : Expr} {f g : EM} {pos apos : Pos}
theorem d_join (ho : DE X W o f) (he : DE X W e g) (hs : starEach [e] X.env = [(false, eval e X.env)] := by rfl) (hbase : attributeBase o "join" X.env (eval o X.env) = eval o X.env := by rfl) (hline : (apos.endLine == pos.line) = true := by rfl) :
    DE X W (.Call (.Attribute o "join" apos) [e] [] pos) (eM1 gJoin f g) := weakE (pe_join ho he hs hbase hline) (canM1 n_join)
end
@[simp] theorem eM1_str {g : Str → PyData → Option PyData} {a b : EM} {e e1 : Ev} {z : Str} (h : a e = .ok (.str z) e1) : eM1 g a b e = (b e1).bind fun y e2 => lift (g z y) e2 := by
  unfold eM1
  rw [h]
  rfl
/-! x in y -/
def oneS (x : Str) : Option Nat := match x.cps.toList with
  | [c] => some c
  | _ => none
theorem oneS_eq {x : Str} {c : Nat} (h : oneS x = some c) : x = ⟨#[c]⟩ := by
  unfold oneS at h
  split at h
  · rename_i c' e
    cases h
    obtain ⟨a⟩ := x
    have : a = #[c] := by
      apply Array.toList_inj.mp
      exact e
    rw [this]
  · cases h
def inD : PyData → PyData → Option Bool
  | x, .list ds => if SeqAt.shaped x && SeqAt.shaped (.list ds) then some (ds.any fun z => PyData.eqv z x) else none
  | x, .tuple ds => if SeqAt.shaped x && SeqAt.shaped (.tuple ds) then some (ds.any fun z => PyData.eqv z x) else none
  | .str x, .str y => (oneS x).map fun c => decide (c ∈ y.cps.toList)
  | _, _ => none
def gIn (x y : PyData) : Option PyData := (inD x y).map .bool
def gNin (x y : PyData) : Option PyData := (inD x y).map fun b => .bool (!b)
def rInA (K : PySem.W.Frag) (neg : Bool) : R2 := fun x y H Q => (∃ d ds, Dp K H x d ∧ Dp K H y (.list ds) ∧ SeqAt.shaped d = true ∧ SeqAt.shaped (.list ds) = true ∧ Q (.bl (if neg then !ds.any fun z => PyData.eqv z d else ds.any fun z => PyData.eqv z d)) H) ∨
  (∃ d ds, Dp K H x d ∧ Dp K H y (.tuple ds) ∧ SeqAt.shaped d = true ∧ SeqAt.shaped (.tuple ds) = true ∧ Q (.bl (if neg then !ds.any fun z => PyData.eqv z d else ds.any fun z => PyData.eqv z d)) H) ∨
  (∃ (c : Nat) (z : Str), x = .str ⟨#[c]⟩ ∧ y = .str z ∧ Q (.bl (if neg then !decide (c ∈ z.cps.toList) else decide (c ∈ z.cps.toList))) H)
theorem o_in {X : Cx} (hu : X.A.units + 65 < cLine) : OpR X (compareOp .In) (rInA X.K false) := by
  intro pins s σ H x y v u Q I rx ry h
  rcases h with h | ⟨d, ds, hd, he, sd, se, q⟩ | h
  · exact op_inD hu pins s σ H x y v u Q I rx ry h
  · obtain ⟨as, r1⟩ := Dp.reads I d x v hd rx
    obtain ⟨bs, r2⟩ := Dp.reads I (.tuple ds) y u he ry
    exact SeqAt.in_tuple_reads r2 r1 (SeqAt.canLay_of_shaped se) (SeqAt.canLay_of_shaped sd) (PyProof.Rows.room_in_shaped sd hu) ⟨.bl _, H, I, rfl, q⟩
  · exact op_in_sign pins s σ H x y v u Q I rx ry h
theorem o_nin {X : Cx} (hu : X.A.units + 65 < cLine) : OpR X (compareOp .NotIn) (rInA X.K true) := by
  intro pins s σ H x y v u Q I rx ry h
  rcases h with h | ⟨d, ds, hd, he, sd, se, q⟩ | h
  · exact op_notInD hu pins s σ H x y v u Q I rx ry h
  · obtain ⟨as, r1⟩ := Dp.reads I d x v hd rx
    obtain ⟨bs, r2⟩ := Dp.reads I (.tuple ds) y u he ry
    exact SeqAt.notIn_tuple_reads r2 r1 (SeqAt.canLay_of_shaped se) (SeqAt.canLay_of_shaped sd) (PyProof.Rows.room_in_shaped sd hu) ⟨.bl _, H, I, rfl, q⟩
  · exact op_notIn_sign pins s σ H x y v u Q I rx ry h
theorem in_snd {K : PySem.W.Frag} {neg : Bool} {F H : Hp} {x y : V} {a b : PyData} {k : Bool} {Q : VK} (s : Same F H) (fx : Fz K F x a) (fy : Fz K F y b) (hg : inD a b = some k) (q : Q (.bl (if neg then !k else k)) H) : rInA K neg x y H Q := by
  cases fy with
  | @lst p vs ds h1 t1 =>
    have hg : (if (SeqAt.shaped a && SeqAt.shaped (.list ds)) = true then some (ds.any fun z => PyData.eqv z a) else none) = some k := by
      cases a <;> exact hg
    by_cases h : (SeqAt.shaped a && SeqAt.shaped (.list ds)) = true
    · rw [if_pos h] at hg
      cases hg
      rw [Bool.and_eq_true] at h
      exact .inl ⟨a, ds, (fx.mono s).dp (shaped_lay h.1), Fz.dp (Fz.mono s (.lst h1 t1)) (shaped_lay h.2), h.1, h.2, q⟩
    · rw [if_neg h] at hg; cases hg
  | @tup p vs ds h1 t1 =>
    have hg : (if (SeqAt.shaped a && SeqAt.shaped (.tuple ds)) = true then some (ds.any fun z => PyData.eqv z a) else none) = some k := by
      cases a <;> exact hg
    by_cases h : (SeqAt.shaped a && SeqAt.shaped (.tuple ds)) = true
    · rw [if_pos h] at hg
      cases hg
      rw [Bool.and_eq_true] at h
      exact .inr (.inl ⟨a, ds, (fx.mono s).dp (shaped_lay h.1), Fz.dp (Fz.mono s (.tup h1 t1)) (shaped_lay h.2), h.1, h.2, q⟩)
    · rw [if_neg h] at hg; cases hg
  | str z =>
    cases fx with
    | str x =>
      have hg : (oneS x).map (fun c => decide (c ∈ z.cps.toList)) = some k := hg
      cases e : oneS x with
      | none => rw [e] at hg; cases hg
      | some c =>
        rw [e] at hg
        cases hg
        obtain rfl := oneS_eq e
        exact .inr (.inr ⟨c, z, rfl, rfl, q⟩)
    | _ => cases hg
  | _ => cases fx <;> cases hg
theorem n_in {K : PySem.W.Frag} : Snd2 K (rInA K false) gIn := by
  intro F H x y a b c Q s fx fy hg q
  unfold gIn at hg
  cases e : inD a b with
  | none => rw [e] at hg; cases hg
  | some k =>
    rw [e] at hg
    cases hg
    exact in_snd s fx fy e (q _ F H .refl (.bl _))
theorem n_nin {K : PySem.W.Frag} : Snd2 K (rInA K true) gNin := by
  intro F H x y a b c Q s fx fy hg q
  unfold gNin at hg
  cases e : inD a b with
  | none => rw [e] at hg; cases hg
  | some k =>
    rw [e] at hg
    cases hg
    exact in_snd s fx fy e (q _ F H .refl (.bl _))
theorem rm65 {k : Nat} {A : Around} (r : Room k A) : A.units + 65 < cLine := by have := r.un; omega
/-! sorted -/
def insS {α : Type} (lt : α → α → Bool) (x : α) : List α → List α
  | [] => [x]
  | y :: r => if lt y x then y :: insS lt x r else x :: y :: r
def srt {α : Type} (lt : α → α → Bool) : List α → List α
  | [] => []
  | x :: r => insS lt x (srt lt r)
structure Lin {α : Type} (lt : α → α → Bool) : Prop where
  asym : ∀ x y, lt x y = true → lt y x = false
  tr : ∀ x y z, lt y x = false → lt z y = false → lt z x = false
  tot : ∀ x y, lt x y = false → lt y x = false → x = y
section
variable {α : Type} {lt : α → α → Bool}
theorem ins_perm (x : α) : ∀ l, (insS lt x l).Perm (x :: l)
  | [] => List.Perm.refl _
  | y :: r => by
    unfold insS
    by_cases h : lt y x = true
    · rw [if_pos h]
      exact ((ins_perm x r).cons y).trans (List.Perm.swap x y r)
    · rw [if_neg h]
theorem srt_perm : ∀ l : List α, (srt lt l).Perm l
  | [] => List.Perm.refl _
  | x :: r => (ins_perm x (srt lt r)).trans ((srt_perm r).cons x)
theorem ins_srt (L : Lin lt) (x : α) : ∀ l : List α, l.Pairwise (fun a b => lt b a = false) → (insS lt x l).Pairwise (fun a b => lt b a = false)
  | [], _ => List.pairwise_singleton _ _
  | y :: r, h => by
    unfold insS
    obtain ⟨h1, h2⟩ := List.pairwise_cons.mp h
    by_cases c : lt y x = true
    · rw [if_pos c]
      refine List.pairwise_cons.mpr ⟨fun z hz => ?_, ins_srt L x r h2⟩
      rcases List.mem_cons.mp ((ins_perm x r).mem_iff.mp hz) with rfl | hz
      · exact L.asym _ _ c
      · exact h1 z hz
    · rw [if_neg c]
      have c' : lt y x = false := by cases e : lt y x with
        | true => exact absurd e c
        | false => rfl
      refine List.pairwise_cons.mpr ⟨fun z hz => ?_, h⟩
      rcases List.mem_cons.mp hz with rfl | hz
      · exact c'
      · exact L.tr _ _ _ c' (h1 z hz)
theorem srt_srt (L : Lin lt) : ∀ l : List α, (srt lt l).Pairwise (fun a b => lt b a = false)
  | [] => List.Pairwise.nil
  | x :: r => ins_srt L x _ (srt_srt L r)
theorem srt_unique (L : Lin lt) {l m : List α} (hp : m.Perm l) (hm : m.Pairwise (fun a b => lt b a = false)) : m = srt lt l :=
  List.Perm.eq_of_pairwise (le := fun a b => lt b a = false) (fun a b _ _ h1 h2 => L.tot a b h2 h1) hm (srt_srt L l) (hp.trans (srt_perm l).symm)
end
def ltS (a b : Str) : Bool := ltCps a.cps.toList b.cps.toList
theorem ltC_asym : ∀ (x y : List Nat), ltCps x y = true → ltCps y x = false
  | [], [], h => by cases h
  | [], _ :: _, _ => rfl
  | _ :: _, [], h => by cases h
  | a :: r, b :: t, h => by
    have h : (decide (a < b) || (a == b && ltCps r t)) = true := h
    show (decide (b < a) || (b == a && ltCps t r)) = false
    rw [Bool.or_eq_true, Bool.and_eq_true] at h
    rw [Bool.or_eq_false_iff, Bool.and_eq_false_iff]
    rcases h with h | ⟨h1, h2⟩
    · have h := of_decide_eq_true h
      exact ⟨decide_eq_false (by omega), .inl (by simpa using (show ¬ b = a by omega))⟩
    · have h1 : a = b := by simpa using h1
      exact ⟨decide_eq_false (by omega), .inr (ltC_asym r t h2)⟩
theorem ltC_tot : ∀ (x y : List Nat), ltCps x y = false → ltCps y x = false → x = y
  | [], [], _, _ => rfl
  | [], _ :: _, h, _ => by cases h
  | _ :: _, [], _, h => by cases h
  | a :: r, b :: t, h, h' => by
    have h : (decide (a < b) || (a == b && ltCps r t)) = false := h
    have h' : (decide (b < a) || (b == a && ltCps t r)) = false := h'
    rw [Bool.or_eq_false_iff, Bool.and_eq_false_iff] at h h'
    have h1 := of_decide_eq_false h.1
    have h2 := of_decide_eq_false h'.1
    have e : a = b := by omega
    subst e
    have h3 : ltCps r t = false := by rcases h.2 with q | q; simp at q; exact q
    have h4 : ltCps t r = false := by rcases h'.2 with q | q; simp at q; exact q
    rw [ltC_tot r t h3 h4]
theorem ltC_tr : ∀ (x y z : List Nat), ltCps y x = false → ltCps z y = false → ltCps z x = false
  | [], _, z, h, h2 => by
    cases z with
    | nil => rfl
    | cons _ _ => rfl
  | a :: r, [], z, h, h2 => by cases h
  | a :: r, b :: t, [], h, h2 => by cases h2
  | a :: r, b :: t, c :: u, h, h' => by
    have h : (decide (b < a) || (b == a && ltCps t r)) = false := h
    have h' : (decide (c < b) || (c == b && ltCps u t)) = false := h'
    show (decide (c < a) || (c == a && ltCps u r)) = false
    rw [Bool.or_eq_false_iff, Bool.and_eq_false_iff] at h h' ⊢
    have h1 := of_decide_eq_false h.1
    have h2 := of_decide_eq_false h'.1
    refine ⟨decide_eq_false (by omega), ?_⟩
    by_cases e : c = a
    · have e1 : b = a := by omega
      have e2 : c = b := by omega
      subst e1
      subst e2
      have h3 : ltCps t r = false := by rcases h.2 with q | q; simp at q; exact q
      have h4 : ltCps u t = false := by rcases h'.2 with q | q; simp at q; exact q
      exact .inr (ltC_tr r t u h3 h4)
    · exact .inl (by simpa using e)
theorem str_ext {a b : Str} (h : a.cps.toList = b.cps.toList) : a = b := by
  obtain ⟨a⟩ := a
  obtain ⟨b⟩ := b
  have : a = b := Array.toList_inj.mp h
  rw [this]
theorem lin_s : Lin ltS := ⟨fun _ _ h => ltC_asym _ _ h, fun _ _ _ h h2 => ltC_tr _ _ _ h h2, fun _ _ h h2 => str_ext (ltC_tot _ _ h h2)⟩
theorem risingS_pw : ∀ (p : Str) (ys : List Str), PyProof.Rows.risingS p ys = true → (p :: ys).Pairwise (fun a b => ltS b a = false)
  | p, [], _ => List.pairwise_singleton _ _
  | p, x :: r, h => by
    have h : (!ltCps x.cps.toList p.cps.toList && PyProof.Rows.risingS x r) = true := h
    rw [Bool.and_eq_true, Bool.not_eq_true'] at h
    have ih := risingS_pw x r h.2
    refine List.pairwise_cons.mpr ⟨fun z hz => ?_, ih⟩
    rcases List.mem_cons.mp hz with rfl | hz
    · exact h.1
    · exact lin_s.tr _ _ _ h.1 ((List.pairwise_cons.mp ih).1 z hz)
theorem sortedS_pw {ys : List Str} (h : PyProof.Rows.sortedS ys = true) : ys.Pairwise (fun a b => ltS b a = false) := by
  cases ys with
  | nil => exact List.Pairwise.nil
  | cons x r => exact risingS_pw x r h
def ltI (a b : Int) : Bool := decide (a < b)
theorem lin_i : Lin ltI := ⟨fun x y h => decide_eq_false (by have := of_decide_eq_true h; omega), fun x y z h h2 => decide_eq_false (by have := of_decide_eq_false h; have := of_decide_eq_false h2; omega), fun x y h h2 => by have := of_decide_eq_false h; have := of_decide_eq_false h2; omega⟩
def rSortS2 (K : PySem.W.Frag) : List V → Hp → VK → Prop := fun vs H Q => ∃ (a : Addr) (xs : List Str), vs = [V.ref a] ∧ SqL K H a (xs.map V.str) ∧
  ∀ (ys : List Str) (p : Addr), ys.Perm xs → PyProof.Rows.sortedS ys = true → H p = none → Q (.ref p) (upd H p (.lst (ys.map V.str)))
theorem cr_sortS2 {X : Cx} : CallR X (.builtin "sorted") (rSortS2 X.K) := by
  intro pins s σ H vs us Q I r h
  obtain ⟨a, xs, rfl, hs, q⟩ := h
  obtain ⟨its, rv, hl, hz⟩ := I.list hs
  rw [Vals.ref1 r]
  have hlen0 := rv.length
  rw [List.length_map] at hlen0 hz
  refine PyProof.Rows.sorted_strsAny hl.isList rv.strs (by rw [← hlen0]; exact hz) fun out ys h1 h2 h3 => ?_
  obtain ⟨ep, he'⟩ := PyProof.Rows.sortedAll_at s.heap its out
  have hlen : (ys.map V.str).length ≤ sizeLine := by rw [List.length_map, h2.length_eq]; exact hz
  exact ⟨.ref _, upd H (s.heap.objs.size + 1) (.lst (ys.map V.str)), I.laid (t' := s.toks) (fun _ _ => PyProof.Rows.sortedAll_old) (Nat.le_succ _) ⟨hlen, out.toList, ep, vals_of_strs h1, he'⟩, rfl, q ys _ h2 h3 (I.hok.fresh (Nat.le_succ _))⟩
def gSort1 (ds : List PyData) : Option PyData := match strsD ds with
  | some ys => some (.list ((srt ltS ys).map .str))
  | none => match intsD ds with
    | some ys => some (.list ((srt ltI ys).map .int))
    | none => none
def gSort : List PyData → Option PyData
  | [.list ds] => gSort1 ds
  | _ => none
def rSortA (K : PySem.W.Frag) : List V → Hp → VK → Prop := fun vs H Q => rSortS2 K vs H Q ∨ rSortedI K vs H Q
theorem call_sort {X : Cx} : CallR X (.builtin "sorted") (rSortA X.K) := CallR.or cr_sortS2 cr_sortedI
theorem fz_ints2 {K : PySem.W.Frag} {F : Hp} : ∀ (ns : List Int), FzL K F (ns.map V.int) (ns.map PyData.int)
  | [] => .nil
  | n :: ns => .cons (.int n) (fz_ints2 ns)
theorem n_sort {K : PySem.W.Frag} : SndL K (rSortA K) gSort := by
  intro F H xs as c Q s f hg q
  cases f with
  | nil => cases hg
  | @cons v vs d ds fd ft =>
   cases ft with
   | cons _ _ => cases d <;> cases hg
   | nil =>
    cases fd with
    | @lst a vs ds h1 t1 =>
      have hg : gSort1 ds = some c := hg
      unfold gSort1 at hg
      cases e : strsD ds with
      | some ys =>
        rw [e] at hg
        cases hg
        have e2 := strsD_eq e
        subst e2
        obtain rfl := FzL.strs t1
        refine .inl ⟨a, ys, rfl, s.seq h1, fun zs p hp hz hn => ?_⟩
        have := srt_unique lin_s hp (sortedS_pw hz)
        subst this
        exact q _ _ _ (.one hn) (.lst (.inl (.inl upd_same)) (fz_strs _))
      | none =>
        rw [e] at hg
        have hg : (match intsD ds with
          | some ys => some (PyData.list ((srt ltI ys).map .int))
          | none => none) = some c := hg
        cases e3 : intsD ds with
        | none => rw [e3] at hg; cases hg
        | some ys =>
          rw [e3] at hg
          cases hg
          have e2 := intsD_eq e3
          subst e2
          obtain rfl := FzL.ints t1
          refine .inr ⟨a, ys, rfl, s.seq h1, fun zs p hp hz hn => ?_⟩
          have := srt_unique lin_i hp (hz.imp fun {a b} h => decide_eq_false (by omega))
          subst this
          exact q _ _ _ (.one hn) (.lst (.inl (.inl upd_same)) (fz_ints2 _))
    | _ => cases hg
/-! a text, repeated -/
def gRepS : PyData → PyData → Option PyData
  | .str x, .int n => if 0 ≤ n ∧ n ≤ 16777216 ∧ x.length * n.toNat ≤ sz then some (.str (Txt.mul x n)) else none
  | _, _ => none
theorem mul_ok {x : Str} {n : Int} (h : 0 ≤ n ∧ n ≤ 16777216 ∧ x.length * n.toNat ≤ sz) : MulOk x n := by
  obtain ⟨h1, h2, h3⟩ := h
  refine ⟨?_, fun h4 _ => ?_, fun _ _ => ?_⟩
  · rw [decide_eq_false (by omega), decide_eq_false (by omega)]
    rfl
  · have h5 : (x.length : Int) * n ≤ 2 ^ 63 - 1 := by
      have e : ((x.length * n.toNat : Nat) : Int) = (x.length : Int) * n := by
        rw [Int.natCast_mul, Int.toNat_of_nonneg h1]
      rw [← e]
      rw [show sz = 16777216 from rfl] at h3
      omega
    have h6 := (Int.le_ediv_iff_mul_le (show 0 < n by omega)).mpr h5
    omega
  · exact decide_eq_false (by rw [sizeLine_eq]; rw [show sz = 16777216 from rfl] at h3; omega)
def rRepS : R2 := fun x y H Q => ∃ z n, x = .str z ∧ y = .int n ∧ MulOk z n ∧ Q (.str (Txt.mul z n)) H
theorem o_repS {X : Cx} : OpR X (binaryOp .Mult) rRepS := by
  intro pins s σ H x y v u Q I rx ry h
  obtain ⟨z, n, rfl, rfl, hok, q⟩ := h
  obtain ⟨t, rfl⟩ := rx
  obtain ⟨t', rfl⟩ := ry
  exact SB.mul hok fun t' k => ⟨.str (Txt.mul z n), H, I.tok _, ⟨_, rfl⟩, q⟩
theorem n_repS {K : PySem.W.Frag} : Snd2 K rRepS gRepS := by
  intro F H x y a b c Q s fx fy hg q
  cases fx with
  | str z =>
    cases fy with
    | int n =>
      have hg : (if 0 ≤ n ∧ n ≤ 16777216 ∧ z.length * n.toNat ≤ sz then some (PyData.str (Txt.mul z n)) else none) = some c := hg
      by_cases h : 0 ≤ n ∧ n ≤ 16777216 ∧ z.length * n.toNat ≤ sz
      · rw [if_pos h] at hg
        cases hg
        exact ⟨z, n, rfl, rfl, mul_ok h, q _ F H .refl (.str _)⟩
      · rw [if_neg h] at hg; cases hg
    | _ => cases hg
  | _ => cases hg
end Ly

set_option Elab.async false
set_option linter.all false
set_option maxRecDepth 100000
set_option maxHeartbeats 4000000
set_option autoImplicit false
namespace Ly
open PySem PySem.Spec L2
/-! ## mathematics: data, comprehensions, texts -/
theorem sz_v : sz = 16777216 := rfl
abbrev ch (c : Nat) : PyData := .str ⟨#[c]⟩
@[simp] theorem items_s (x : Str) : itemsD (.str x) = some (x.cps.toList.map ch) := rfl
theorem gLen_s {x : Str} (h : x.length ≤ sz) : gLen [.str x] = some (.int x.length) := if_pos h
theorem len_eq (x : Str) : x.length = x.cps.toList.length := by
  show x.cps.size = _
  rw [Array.length_toList]
/-! shaped data -/
def Dpt (n : Nat) (d : PyData) : Prop := d.canLay0 = true ∧ d.depth ≤ n
theorem Dpt.shaped {n : Nat} {d : PyData} (h : Dpt n d) (hn : n ≤ 64) : SeqAt.shaped d = true := by
  unfold SeqAt.shaped
  rw [h.1, decide_eq_true (Nat.le_trans h.2 hn)]
  rfl
theorem Dpt.mono {n m : Nat} {d : PyData} (h : Dpt n d) (hn : n ≤ m) : Dpt m d := ⟨h.1, Nat.le_trans h.2 hn⟩
theorem dpt_all {n : Nat} : ∀ {ds : List PyData}, (∀ d ∈ ds, Dpt n d) → PyData.canLayAll0 ds = true ∧ PyData.depthAll ds ≤ n
  | [], _ => ⟨by rw [PyData.canLayAll0], by rw [PyData.depthAll]; exact Nat.zero_le _⟩
  | d :: ds, h => by
    obtain ⟨h1, h2⟩ := dpt_all (fun x hx => h x (List.mem_cons_of_mem _ hx))
    obtain ⟨h3, h4⟩ := h d List.mem_cons_self
    exact ⟨by rw [PyData.canLayAll0, h3, h1]; rfl, by rw [PyData.depthAll]; exact Nat.max_le.mpr ⟨h4, h2⟩⟩
theorem dpt_list {n : Nat} {ds : List PyData} (h : ∀ d ∈ ds, Dpt n d) : Dpt (n + 1) (.list ds) := by
  obtain ⟨h1, h2⟩ := dpt_all h
  exact ⟨by rw [PyData.canLay0]; exact h1, by rw [PyData.depth]; omega⟩
theorem dpt_tup {n : Nat} {ds : List PyData} (h : ∀ d ∈ ds, Dpt n d) : Dpt (n + 1) (.tuple ds) := by
  obtain ⟨h1, h2⟩ := dpt_all h
  exact ⟨by rw [PyData.canLay0]; exact h1, by rw [PyData.depth]; omega⟩
theorem dpt_int (n : Nat) (i : Int) : Dpt n (.int i) := ⟨by rw [PyData.canLay0], by rw [PyData.depth]; exact Nat.zero_le _⟩
theorem dpt_bool (n : Nat) (i : Bool) : Dpt n (.bool i) := ⟨by rw [PyData.canLay0], by rw [PyData.depth]; exact Nat.zero_le _⟩
theorem dpt_none (n : Nat) : Dpt n .none := ⟨by rw [PyData.canLay0], by rw [PyData.depth]; exact Nat.zero_le _⟩
/-- a plain text: ASCII, within the line -/
def Asc (x : Str) : Prop := (∀ c ∈ x.cps.toList, c < 128) ∧ x.length ≤ sz
theorem asc_ok {x : Str} (h : Asc x) : PyData.strOk x = true := by
  unfold PyData.strOk
  rw [← Array.all_toList, List.all_eq_true]
  intro c hc
  have := h.1 c hc
  simp
  omega
theorem dpt_str {x : Str} (n : Nat) (h : Asc x) : Dpt n (.str x) := ⟨by rw [PyData.canLay0]; exact asc_ok h, by rw [PyData.depth]; exact Nat.zero_le _⟩
theorem asc_ch {c : Nat} (h : c < 128) : Asc ⟨#[c]⟩ := ⟨fun d hd => by
  have : d = c := by simpa using hd
  omega, by show 1 ≤ sz; decide⟩
theorem gEq_nil {ds : List PyData} (h : SeqAt.shaped (.list ds) = true) : gEq (.list ds) (.list []) = some (.bool ds.isEmpty) := by
  unfold gEq
  rw [h]
  show some (PyData.bool (PyData.eqv (.list ds) (.list []))) = _
  cases ds with
  | nil => rfl
  | cons d r => rfl
theorem gEq_of {a b : PyData} (h : SeqAt.shaped a = true) (h2 : SeqAt.shaped b = true) : gEq a b = some (.bool (PyData.eqv a b)) := by
  unfold gEq
  rw [h, h2]
  rfl
theorem gNe_of {a b : PyData} (h : SeqAt.shaped a = true) (h2 : SeqAt.shaped b = true) : gNe a b = some (.bool (!PyData.eqv a b)) := by
  unfold gNe
  rw [h, h2]
  rfl
theorem eqv_s (a b : Str) : PyData.eqv (.str a) (.str b) = decide (a = b) := by
  rw [PyData.eqv]
  by_cases h : a = b
  · subst h
    rw [decide_eq_true rfl]
    exact beq_self_eq_true _
  · rw [decide_eq_false h]
    exact beq_eq_false_iff_ne.mpr h
theorem eqv_i (a b : Int) : PyData.eqv (.int a) (.int b) = decide (a = b) := by
  rw [PyData.eqv]
  rfl
theorem gEq_s {a b : Str} (ha : Asc a) (hb : Asc b) : gEq (.str a) (.str b) = some (.bool (decide (a = b))) := by
  rw [gEq_of (Dpt.shaped (dpt_str 0 ha) (by decide)) (Dpt.shaped (dpt_str 0 hb) (by decide)), eqv_s]
theorem gNe_s {a b : Str} (ha : Asc a) (hb : Asc b) : gNe (.str a) (.str b) = some (.bool (!decide (a = b))) := by
  rw [gNe_of (Dpt.shaped (dpt_str 0 ha) (by decide)) (Dpt.shaped (dpt_str 0 hb) (by decide)), eqv_s]
theorem any_strs (x : Str) (ys : List Str) : (ys.map PyData.str).any (fun z => PyData.eqv z (.str x)) = decide (x ∈ ys) := by
  induction ys with
  | nil => rfl
  | cons y ys ih =>
    rw [List.map_cons, List.any_cons, ih, eqv_s]
    by_cases h : y = x
    · subst h
      simp
    · have h' : ¬ x = y := fun e => h e.symm
      simp [h, h']
theorem shaped_strs {ys : List Str} (h : ∀ y ∈ ys, Asc y) : SeqAt.shaped (.list (ys.map .str)) = true :=
  Dpt.shaped (dpt_list (n := 0) fun d hd => by
    obtain ⟨y, hy, rfl⟩ := List.mem_map.mp hd
    exact dpt_str 0 (h y hy)) (by decide)
theorem shaped_strs_t {ys : List Str} (h : ∀ y ∈ ys, Asc y) : SeqAt.shaped (.tuple (ys.map .str)) = true :=
  Dpt.shaped (dpt_tup (n := 0) fun d hd => by
    obtain ⟨y, hy, rfl⟩ := List.mem_map.mp hd
    exact dpt_str 0 (h y hy)) (by decide)
theorem shaped_s {x : Str} (h : Asc x) : SeqAt.shaped (.str x) = true := Dpt.shaped (dpt_str 0 h) (by decide)
theorem inD_strs {x : Str} {ys : List Str} (hx : Asc x) (h : ∀ y ∈ ys, Asc y) : inD (.str x) (.list (ys.map .str)) = some (decide (x ∈ ys)) := by
  show (if (SeqAt.shaped (.str x) && SeqAt.shaped (.list (ys.map .str))) = true then some ((ys.map PyData.str).any fun z => PyData.eqv z (.str x)) else none) = _
  rw [shaped_s hx, shaped_strs h, any_strs]
  rfl
theorem inD_strs_t {x : Str} {ys : List Str} (hx : Asc x) (h : ∀ y ∈ ys, Asc y) : inD (.str x) (.tuple (ys.map .str)) = some (decide (x ∈ ys)) := by
  show (if (SeqAt.shaped (.str x) && SeqAt.shaped (.tuple (ys.map .str))) = true then some ((ys.map PyData.str).any fun z => PyData.eqv z (.str x)) else none) = _
  rw [shaped_s hx, shaped_strs_t h, any_strs]
  rfl
theorem inD_ch (c : Nat) (y : Str) : inD (ch c) (.str y) = some (decide (c ∈ y.cps.toList)) := rfl
theorem gNin_ch (c : Nat) (y : Str) : gNin (ch c) (.str y) = some (.bool (!decide (c ∈ y.cps.toList))) := rfl
theorem gIn_ch (c : Nat) (y : Str) : gIn (ch c) (.str y) = some (.bool (decide (c ∈ y.cps.toList))) := rfl
theorem gIx_s {x : Str} {i : Nat} {c : Nat} (hx : x.length ≤ sz) (h : x.cps.toList[i]? = some c) : gIx (.str x) (.int i) = some (ch c) := by
  show (if x.length ≤ sz then (atI x.cps.toList (i : Int)).map fun c => PyData.str ⟨#[c]⟩ else none) = _
  rw [if_pos hx, atI_nat h]
  rfl
theorem ch_inj {a b : Nat} : (⟨#[a]⟩ : Str) = ⟨#[b]⟩ ↔ a = b := by
  constructor
  · intro h
    have : (#[a] : Array Nat) = #[b] := congrArg Str.cps h
    simpa using this
  · rintro rfl
    rfl
theorem gNe_ch {a b : Nat} (ha : a < 128) (hb : b < 128) : gNe (ch a) (ch b) = some (.bool (!decide (a = b))) := by
  have h := gNe_s (asc_ch ha) (asc_ch hb)
  rw [decide_eq_decide.mpr (ch_inj (a := a) (b := b))] at h
  exact h
theorem gEq_ch {a b : Nat} (ha : a < 128) (hb : b < 128) : gEq (ch a) (ch b) = some (.bool (decide (a = b))) := by
  have h := gEq_s (asc_ch ha) (asc_ch hb)
  rw [decide_eq_decide.mpr (ch_inj (a := a) (b := b))] at h
  exact h
theorem gGe_s (a b : Str) : gGe (.str a) (.str b) = some (.bool (!ltS a b)) := by
  show some (PyData.bool (!decide (a.cps.toList < b.cps.toList))) = _
  unfold ltS
  rw [PyProof.Rows.ltCps_eq]
theorem gLt_s (a b : Str) : gLt (.str a) (.str b) = some (.bool (ltS a b)) := by
  show some (PyData.bool (decide (a.cps.toList < b.cps.toList))) = _
  unfold ltS
  rw [PyProof.Rows.ltCps_eq]
@[simp] theorem gNe_i (i j : Int) : gNe (.int i) (.int j) = some (.bool (!decide (i = j))) := rfl
/-! comprehensions -/
theorem rng_mem {lo hi : Int} {i : Nat} {d : PyData} (h : (rngL lo hi)[i]? = some d) : d = .int (lo + i) ∧ (i : Int) < hi - lo := by
  unfold rngL at h
  rw [List.getElem?_map] at h
  have h2 : i < (hi - lo).toNat := by
    rcases Nat.lt_or_ge i (hi - lo).toNat with q | q
    · exact q
    · rw [List.getElem?_eq_none (by rw [List.length_range]; exact q)] at h
      cases h
  rw [List.getElem?_range h2] at h
  cases h
  exact ⟨rfl, by omega⟩
def Res.gets {α : Type} (r : Res α) (P : α → Ev → Prop) : Prop := match r with
  | .ok a e => P a e
  | _ => False
@[simp] theorem gets_ok {α : Type} (a : α) (e : Ev) (P : α → Ev → Prop) : Res.gets (.ok a e) P = P a e := rfl
theorem gets_of {α : Type} {r : Res α} {P : α → Ev → Prop} (h : r.gets P) : ∃ a e, r = .ok a e ∧ P a e := by
  cases r with
  | ok a e => exact ⟨a, e, rfl, h⟩
  | _ => exact h.elim
/-- a comprehension with a test, over data that come from l -/
theorem comp_fm {α : Type} {u : UM} {t : TM} {f : EM} {own : List Nat} {g y : α → PyData} {p : α → Bool} {e0 : Ev} : ∀ (l : List α),
    (∀ d ∈ l, ∃ as, u (g d) = some as ∧ (t (setEv e0 as)).gets fun b e2 => b = p d ∧ wipeE e2 own = e0 ∧ (p d = true → (f e2).gets fun z e3 => z = y d ∧ wipeE e3 own = e0)) → compL u t f own (l.map g) e0 = .ok ((l.filter p).map y) e0
  | [], _ => rfl
  | d :: ds, h => by
    obtain ⟨as, h1, h2⟩ := h d List.mem_cons_self
    obtain ⟨b, e2, h2, rfl, h3, h4⟩ := gets_of h2
    have ih := comp_fm ds fun d hd => h d (List.mem_cons_of_mem _ hd)
    show (match u (g d) with
    | none => Res.no
    | some as => (t (setEv e0 as)).nox.bind fun b e2 => if b then (f e2).nox.bind fun y e3 => (compL u t f own (ds.map g) (wipeE e3 own)).bind fun ys e4 => .ok (y :: ys) e4 else compL u t f own (ds.map g) (wipeE e2 own)) = _
    rw [h1]
    show (t (setEv e0 as)).nox.bind _ = _
    rw [h2]
    show (if p d = true then (f e2).nox.bind fun y e3 => (compL u t f own (ds.map g) (wipeE e3 own)).bind fun ys e4 => .ok (y :: ys) e4 else compL u t f own (ds.map g) (wipeE e2 own)) = _
    by_cases hp : p d = true
    · obtain ⟨z, e3, h5, rfl, h6⟩ := gets_of (h4 hp)
      rw [if_pos hp, h5, List.filter_cons_of_pos hp]
      show (compL u t f own (ds.map g) (wipeE e3 own)).bind _ = _
      rw [h6, ih]
      rfl
    · rw [if_neg hp, h3, ih, List.filter_cons_of_neg hp]
/-- a comprehension without a test -/
theorem comp_m {α : Type} {u : UM} {f : EM} {own : List Nat} {g y : α → PyData} {e0 : Ev} (l : List α) (h : ∀ d ∈ l, ∃ as, u (g d) = some as ∧ (f (setEv e0 as)).gets fun z e3 => z = y d ∧ wipeE e3 own = e0) : compL u tT f own (l.map g) e0 = .ok (l.map y) e0 := by
  induction l with
  | nil => rfl
  | cons d ds ih =>
    obtain ⟨as, h1, h2⟩ := h d List.mem_cons_self
    obtain ⟨b, e2, h2, rfl, h3⟩ := gets_of h2
    have ih := ih fun d hd => h d (List.mem_cons_of_mem _ hd)
    show (match u (g d) with
    | none => Res.no
    | some as => (tT (setEv e0 as)).nox.bind fun b e2 => if b then (f e2).nox.bind fun y e3 => (compL u tT f own (ds.map g) (wipeE e3 own)).bind fun ys e4 => .ok (y :: ys) e4 else compL u tT f own (ds.map g) (wipeE e2 own)) = _
    rw [h1]
    show (f (setEv e0 as)).nox.bind _ = _
    rw [h2]
    show (compL u tT f own (ds.map g) (wipeE e2 own)).bind _ = _
    rw [h3, ih]
    rfl
/-- a comprehension whose items change what is owned -/
theorem comp_st {α : Type} {u : UM} {f : EM} {own : List Nat} {g : α → PyData} (I : List PyData → Ev → Prop) : ∀ (l : List α) (ys : List PyData) (e : Ev),
    (∀ d ∈ l, ∀ (ys : List PyData) (e : Ev), I ys e → ∃ as, u (g d) = some as ∧ (f (setEv e as)).gets fun y e3 => I (ys ++ [y]) (wipeE e3 own)) → I ys e → ∃ zs e', compL u tT f own (l.map g) e = .ok zs e' ∧ I (ys ++ zs) e' ∧ zs.length = l.length
  | [], ys, e, _, h0 => ⟨[], e, rfl, by rw [List.append_nil]; exact h0, rfl⟩
  | d :: ds, ys, e, h, h0 => by
    obtain ⟨as, h1, h2⟩ := h d List.mem_cons_self ys e h0
    obtain ⟨y, e3, h2, h3⟩ := gets_of h2
    obtain ⟨zs, e', q1, q2, q3⟩ := comp_st I ds (ys ++ [y]) (wipeE e3 own) (fun d hd => h d (List.mem_cons_of_mem _ hd)) h3
    refine ⟨y :: zs, e', ?_, ?_, ?_⟩
    · show (match u (g d) with
    | none => Res.no
    | some as => (tT (setEv e as)).nox.bind fun b e2 => if b then (f e2).nox.bind fun y e3 => (compL u tT f own (ds.map g) (wipeE e3 own)).bind fun ys e4 => .ok (y :: ys) e4 else compL u tT f own (ds.map g) (wipeE e2 own)) = _
      rw [h1]
      show (f (setEv e as)).nox.bind _ = _
      rw [h2]
      show (compL u tT f own (ds.map g) (wipeE e3 own)).bind _ = _
      rw [q1]
      rfl
    · rw [List.append_assoc] at q2
      exact q2
    · rw [List.length_cons, List.length_cons, q3]
theorem rngL_0 (n : Nat) : rngL 0 n = (List.range n).map fun (k : Nat) => PyData.int k := by
  unfold rngL
  rw [show ((n : Int) - 0).toNat = n by omega]
  congr 1
  funext k
  rw [Int.zero_add]
theorem empty_map {α β : Type} (l : List α) (g : α → β) : (l.map g).isEmpty = l.isEmpty := by cases l <;> rfl
theorem filter_none {α : Type} (l : List α) (p : α → Bool) : (l.filter p).isEmpty = l.all fun x => !p x := by
  induction l with
  | nil => rfl
  | cons x r ih =>
    cases h : p x with
    | true => rw [List.filter_cons_of_pos h, List.all_cons, h]; rfl
    | false => rw [List.filter_cons_of_neg (by rw [h]; decide), List.all_cons, h, ih]; rfl
theorem asc_at {x : Str} (h : Asc x) {i c : Nat} (e : x.cps.toList[i]? = some c) : c < 128 := h.1 c (List.mem_of_getElem? e)
theorem shaped_chs {cs : List Nat} (h : ∀ c ∈ cs, c < 128) : SeqAt.shaped (.list (cs.map ch)) = true :=
  Dpt.shaped (dpt_list (n := 0) fun d hd => by
    obtain ⟨y, hy, rfl⟩ := List.mem_map.mp hd
    exact dpt_str 0 (asc_ch (h y hy))) (by decide)
theorem shaped_ints (l : List Nat) : SeqAt.shaped (.list (l.map fun (k : Nat) => PyData.int k)) = true :=
  Dpt.shaped (dpt_list (n := 0) fun d hd => by
    obtain ⟨y, hy, rfl⟩ := List.mem_map.mp hd
    exact dpt_int 0 _) (by decide)
/-! joined signs -/
theorem glued_nil (ys : List Str) : (Txt.join Str.empty ys).cps.toList = (ys.map (fun y => y.cps.toList)).flatten := by
  unfold Txt.join Builtin.Str.glued
  cases ys with
  | nil => rfl
  | cons y ys =>
    show (List.foldl (fun acc p => acc ++ Str.empty.cps ++ p.cps) y.cps ys).toList = _
    have : ∀ (zs : List Str) (a : Array Nat), (List.foldl (fun acc (p : Str) => acc ++ Str.empty.cps ++ p.cps) a zs).toList = a.toList ++ (zs.map fun z => z.cps.toList).flatten := by
      intro zs
      induction zs with
      | nil => intro a; simp
      | cons z zs ih =>
        intro a
        rw [List.foldl_cons, ih]
        simp [Str.empty]
    rw [this]
    simp
theorem sum_chs (cs : List Nat) : ((cs.map fun c => (⟨#[c]⟩ : Str)).map (·.length)).sum = cs.length := by
  induction cs with
  | nil => rfl
  | cons c cs ih =>
    rw [List.map_cons, List.map_cons, List.sum_cons, ih]
    show 1 + cs.length = _
    rw [List.length_cons]
    omega
/-- the signs of a text, joined: a text of these signs -/
theorem join_chs {cs : List Nat} (h : cs.length ≤ sz) : gJoin Str.empty (.list (cs.map ch)) = some (.str ⟨cs.toArray⟩) := by
  have e : cs.map ch = (cs.map fun c => (⟨#[c]⟩ : Str)).map PyData.str := by rw [List.map_map]; rfl
  rw [e]
  show ((strsD ((cs.map fun c => (⟨#[c]⟩ : Str)).map PyData.str)).bind fun ys => if (ys.map (·.length)).sum + ys.length * Str.empty.length ≤ sz then some (PyData.str (Txt.join Str.empty ys)) else none) = _
  rw [strsD_map]
  show (if ((cs.map fun c => (⟨#[c]⟩ : Str)).map (·.length)).sum + _ * 0 ≤ sz then some (PyData.str (Txt.join Str.empty (cs.map fun c => (⟨#[c]⟩ : Str)))) else none) = _
  rw [sum_chs, Nat.mul_zero, Nat.add_zero, if_pos h]
  congr 2
  apply str_ext
  rw [glued_nil, List.map_map]
  show ((cs.map (fun c => [c])).flatten) = cs
  induction cs with
  | nil => rfl
  | cons c cs ih =>
    rw [List.map_cons, List.flatten_cons, ih (by rw [List.length_cons] at h; omega) (by rw [List.map_map]; rfl)]
    rfl
end Ly

set_option Elab.async false
set_option linter.all false
set_option maxRecDepth 100000
set_option maxHeartbeats 4000000
set_option autoImplicit false
namespace Ly
open PySem PySem.Spec L2
/-! ## owned lists read in place -/
def flatD : PyData → Bool
  | .none => true
  | .bool _ => true
  | .int _ => true
  | .str _ => true
  | _ => false
theorem flat_fz {K : PySem.W.Frag} {F F' : Hp} {v : V} {d : PyData} (h : Fz K F v d) (f : flatD d = true) : Fz K F' v d := by
  cases h with
  | non => exact .non
  | bl b => exact .bl b
  | int i => exact .int i
  | str x => exact .str x
  | _ => cases f
theorem grow_of {F0 F H F' H' : Hp} (s : Same F H) (g : Grow F0 H F' H') : ∃ F'', Grow F H F'' H' := by
  induction g with
  | refl => exact ⟨F, .refl⟩
  | step g hp ih =>
    obtain ⟨F'', q⟩ := ih
    exact ⟨_, .step q hp⟩
/-- what an owned list of data stands for -/
def frsD : List O → Option (List PyData)
  | [] => some []
  | .fr d :: r => (frsD r).map (d :: ·)
  | _ => none
theorem frsD_eq : ∀ {xs : List O} {ds : List PyData}, frsD xs = some ds → xs = ds.map .fr
  | [], ds, h => by cases h; rfl
  | x :: r, ds, h => by
    cases x with
    | fr d =>
      have h : (frsD r).map (d :: ·) = some ds := h
      cases e : frsD r with
      | none => rw [e] at h; cases h
      | some es =>
        rw [e] at h
        cases h
        rw [frsD_eq e]
        rfl
    | nd _ _ => cases h
@[simp] theorem frsD_map : ∀ (ds : List PyData), frsD (ds.map .fr) = some ds
  | [] => rfl
  | d :: ds => by
    show (frsD (ds.map .fr)).map (d :: ·) = _
    rw [frsD_map ds]
    rfl
def pkO : Option O → Option (List PyData)
  | some (.nd .lst xs) => frsD xs
  | some (.fr (.list ds)) => some ds
  | _ => none
def pkD (e : Ev) (i : Nat) : Option (List PyData) := pkO e[i]?.join
theorem pkD_eq {e : Ev} {i : Nat} {ds : List PyData} (h : pkD e i = some ds) : e[i]? = some (some (.nd .lst (ds.map .fr))) ∨ e[i]? = some (some (.fr (.list ds))) := by
  unfold pkD at h
  cases h0 : e[i]? with
  | none => rw [h0] at h; cases h
  | some o =>
    rw [h0] at h
    have h : pkO o = some ds := h
    unfold pkO at h
    split at h
    · left
      rw [frsD_eq h]
    · right
      cases h
      rfl
    · cases h
theorem pkD_at {e : Ev} {i : Nat} {ds : List PyData} (h : e[i]? = some (some (.nd .lst (ds.map .fr)))) : pkD e i = some ds := by
  unfold pkD
  rw [h]
  exact frsD_map ds
theorem pkD_fr {e : Ev} {i : Nat} {ds : List PyData} (h : e[i]? = some (some (.fr (.list ds)))) : pkD e i = some ds := by
  unfold pkD
  rw [h]
  rfl
section
variable {K : PySem.W.Frag} {mg : MG} {G : Gd} {F H : Hp} {env : Ev} {σ : St}
theorem frs_fz {S : Nat → Addr → Prop} : ∀ {vs : List V} {ds : List PyData}, vs.length = ds.length → (∀ (j : Nat) (v : V) (o : O), vs[j]? = some v → (ds.map O.fr)[j]? = some o → Rep K mg F H (S j) v o) → FzL K F vs ds
  | [], [], _, _ => .nil
  | [], _ :: _, h, _ => by cases h
  | _ :: _, [], h, _ => by cases h
  | v :: vs, d :: ds, h, k => by
    have h0 := k 0 v (.fr d) rfl rfl
    cases h0 with
    | fr f => exact .cons f (frs_fz (S := fun j => S (j + 1)) (by simpa using h) fun j v o e1 e2 => k (j + 1) v o e1 e2)
/-- the list itself: its items are data -/
theorem J.pk (j : J K mg G F env σ H) {i : Nat} {ds : List PyData} (e : pkD env i = some ds) : ∃ (a : Addr) (vs : List V), σ[i]? = some (some (.ref a)) ∧ SqL K H a vs ∧ FzL K F vs ds := by
  rcases pkD_eq e with e | e
  · obtain ⟨S, v, h1, h2, h3⟩ := j.row e
    obtain ⟨a, vs, Sf, rfl, q1, q2, q3, q4, _⟩ := h2.lst
    exact ⟨a, vs, h1, SqL.of q1, frs_fz (by rw [q3, List.length_map]) q4⟩
  · obtain ⟨v, h1, h2⟩ := j.fr e
    cases h2 with
    | lst q1 q2 => exact ⟨_, _, h1, j.sub.seq q1, q2⟩
theorem J.pkH (j : J K mg G F env σ H) {i : Nat} {ds : List PyData} (e : pkD env i = some ds) : ∃ v, σ[i]? = some (some v) ∧ Fz K H v (.list ds) := by
  obtain ⟨a, vs, h1, h2, h4⟩ := j.pk e
  exact ⟨_, h1, .lst h2 (h4.mono j.sub)⟩
end
def liftF (o : Option PyData) (e : Ev) : Res PyData := match o with
  | some c => if flatD c then .ok c e else .no
  | none => .no
theorem liftF_ok {c : PyData} {e : Ev} (h : flatD c = true) : liftF (some c) e = .ok c e := if_pos h
@[simp] theorem liftF_b (b : Bool) (e : Ev) : liftF (some (.bool b)) e = .ok (.bool b) e := rfl
@[simp] theorem liftF_i (b : Int) (e : Ev) : liftF (some (.int b)) e = .ok (.int b) e := rfl
@[simp] theorem liftF_s (b : Str) (e : Ev) : liftF (some (.str b)) e = .ok (.str b) e := rfl
/-- a op x, x an owned list, the answer flat -/
def e2R (g : PyData → PyData → Option PyData) (a : EM) (i : Nat) : EM := fun e => (a e).bind fun x e1 => match pkD e1 i with
  | some ds => liftF (g x (.list ds)) e1
  | none => .no
def t2R (g : PyData → PyData → Option PyData) (a : EM) (i : Nat) : TM := fun e => (e2R g a i e).bind toB
/-- f(x), x an owned list, the answer flat -/
def eL1R (g : List PyData → Option PyData) (i : Nat) : EM := fun e => match pkD e i with
  | some ds => liftF (g [.list ds]) e
  | none => .no
def eM1R (g : Str → PyData → Option PyData) (a : EM) (i : Nat) : EM := fun e => (a e).bind fun x e1 => match x with
  | .str z => (match pkD e1 i with
    | some ds => liftF (g z (.list ds)) e1
    | none => .no)
  | _ => .no
section
variable {X : Cx} {W : WX} {G : Gd} {F : Hp} {σ : St}
theorem liftF_end {env : Ev} {H : Hp} {o : Option PyData} {Q : VK} {R : Prop} (j : J X.K X.mg G F env σ H) (p : PostR X W G F σ (fun d F' H' => ∀ v, Fz X.K F' v d → Q v H') (liftF o env))
    (k : ∀ c, o = some c → (∀ v F' H', Grow H H F' H' → Fz X.K F' v c → Q v H') → R) : R := by
  cases o with
  | none => exact p.elim
  | some c =>
    unfold liftF at p
    by_cases hf : flatD c = true
    · simp only [hf, if_true] at p
      refine k c rfl fun v F' H' g f => ?_
      obtain ⟨F'', g2⟩ := grow_of j.sub g
      exact p F'' H' (j.grow g2).1 (j.grow g2).2 v (flat_fz f hf)
    · simp only [hf] at p
      exact p.elim
theorem can2R {r : R2} {g : PyData → PyData → Option PyData} {f1 : EM} {i : Nat} (hs : Snd2 X.K r g) (σ : St) (H : Hp) (Q : VK) (h : canE X W (e2R g f1 i) σ H Q) : tOp r (canE X W f1) (tVar i) σ H Q := by
  obtain ⟨G, F, env, j, p⟩ := h
  refine ⟨G, F, env, j, p.bind.imp fun a F1 H1 s1 ⟨e1, j1, p2⟩ v fv => ?_⟩
  cases hp : pkD e1 i with
  | none => simp only [hp] at p2; exact p2.elim
  | some ds =>
    simp only [hp] at p2
    obtain ⟨u, h1, h2⟩ := j1.pkH hp
    exact ⟨u, h1, liftF_end j1 p2 fun c hg q => hs H1 H1 v u a (.list ds) c Q (Same.refl H1) (fv.mono j1.sub) h2 hg q⟩
theorem canM1R {r : V → List V → Hp → VK → Prop} {g : Str → PyData → Option PyData} {f1 : EM} {i : Nat} (hs : SndS1 X.K r g) (σ : St) (H : Hp) (Q : VK) (h : canE X W (eM1R g f1 i) σ H Q) : tM1 r (canE X W f1) (tVar i) σ H Q := by
  obtain ⟨G, F, env, j, p⟩ := h
  refine ⟨G, F, env, j, p.bind.imp fun a F1 H1 s1 ⟨e1, j1, p2⟩ v fv => ?_⟩
  cases fv with
  | str z =>
    have p2 : PostR X W G F1 σ _ (match pkD e1 i with
    | some ds => liftF (g z (.list ds)) e1
    | none => .no) := p2
    cases hp : pkD e1 i with
    | none => simp only [hp] at p2; exact p2.elim
    | some ds =>
      simp only [hp] at p2
      obtain ⟨u, h1, h2⟩ := j1.pkH hp
      exact ⟨⟨z, rfl⟩, u, h1, liftF_end j1 p2 fun c hg q => hs H1 H1 z u (.list ds) c Q (Same.refl H1) h2 hg q⟩
  | _ => exact p2.elim
theorem canL1R {r : List V → Hp → VK → Prop} {g : List PyData → Option PyData} {i : Nat} (hs : SndL X.K r g) (σ : St) (H : Hp) (Q : VK) (h : canE X W (eL1R g i) σ H Q) : tCB r (tCons (tVar i) tNil) σ H Q := by
  obtain ⟨G, F, env, j, p⟩ := h
  unfold eL1R at p
  cases hp : pkD env i with
  | none => simp only [hp] at p; exact p.elim
  | some ds =>
    simp only [hp] at p
    obtain ⟨u, h1, h2⟩ := j.pkH hp
    exact ⟨u, h1, liftF_end j p fun c hg q => hs H H [u] [.list ds] c Q (Same.refl H) (.cons h2 .nil) hg q⟩
end
section
variable {X : Cx} {W : WX} {a : Expr} {f : EM} {pos : Pos}
theorem canT2R {r : R2} {g : PyData → PyData → Option PyData} {f1 : EM} {i : Nat} (hs : Snd2 X.K r g) (σ : St) (H : Hp) (Q : Bool → Hp → Prop) (h : canT X W (t2R g f1 i) σ H Q) : tTest (tOp r (canE X W f1) (tVar i)) σ H Q := by
  obtain ⟨G, F, env, j, p⟩ := h
  refine can2R hs σ H _ ⟨G, F, env, j, (PostR.bind p).imp fun x F1 H1 s1 ⟨e1, j1, p2⟩ v fv => ?_⟩
  exact toB_end j1 p2 fv
theorem d_cmpR (i : Nat) {x : Str} {np : Pos} {op : CmpOp} {r : R2} {g : PyData → PyData → Option PyData} (ho : OpR X (compareOp op) r) (hs : Snd2 X.K r g) (ha : DE X W a f)
    (hm : behindInMarks op (.Name x np) = false) (hN : X.N[i]? = some x := by rfl) (hv : Vis X.env.scope x := by first | exact Or.inl rfl | exact Or.inr (Or.inl rfl) | exact Or.inr (Or.inr rfl)) (hd : (x == ("__debug__" : Str)) = false := by decide)
    (hcd : (x == ("__classdict__" : Str)) = false := by decide) : DE X W (.Compare a [op] [.Name x np] pos) (e2R g f i) := weakE (pe_cmpR ho ha (pe_var hN hv hd hcd) hm) (can2R hs)
theorem t_cmpR (i : Nat) {x : Str} {np : Pos} {op : CmpOp} {r : R2} {g : PyData → PyData → Option PyData} (ho : OpR X (compareOp op) r) (hs : Snd2 X.K r g) (ha : DE X W a f)
    (hm : behindInMarks op (.Name x np) = false) (hN : X.N[i]? = some x := by rfl) (hv : Vis X.env.scope x := by first | exact Or.inl rfl | exact Or.inr (Or.inl rfl) | exact Or.inr (Or.inr rfl)) (hd : (x == ("__debug__" : Str)) = false := by decide)
    (hcd : (x == ("__classdict__" : Str)) = false := by decide) : DT X W (.Compare a [op] [.Name x np] pos) (t2R g f i) := weakT (pt_cmpR ho ha (pe_var hN hv hd hcd) hm) (canT2R hs)
theorem d_joinR (i : Nat) {o : Expr} {x : Str} {np apos : Pos} (ho : DE X W o f) (hN : X.N[i]? = some x := by rfl) (hv : Vis X.env.scope x := by first | exact Or.inl rfl | exact Or.inr (Or.inl rfl) | exact Or.inr (Or.inr rfl)) (hd : (x == ("__debug__" : Str)) = false := by decide)
    (hcd : (x == ("__classdict__" : Str)) = false := by decide) (hs : starEach [Expr.Name x np] X.env = [(false, eval (.Name x np) X.env)] := by rfl) (hbase : attributeBase o "join" X.env (eval o X.env) = eval o X.env := by rfl) (hline : (apos.endLine == pos.line) = true := by rfl) :
    DE X W (.Call (.Attribute o "join" apos) [.Name x np] [] pos) (eM1R gJoin f i) := weakE (pe_join ho (pe_var hN hv hd hcd) hs hbase hline) (canM1R n_join)
/-- sorted(x), x an owned list of texts or of ints -/
def eSortR (i : Nat) : EM := fun e => match pkD e i with
  | some ds => lift (gSort1 ds) e
  | none => .no
theorem d_sortR (i : Nat) {x : Str} {np p : Pos} (hm : X.mg "sorted" = none) (hN : X.N[i]? = some x := by rfl) (hv : Vis X.env.scope x := by first | exact Or.inl rfl | exact Or.inr (Or.inl rfl) | exact Or.inr (Or.inr rfl)) (hd : (x == ("__debug__" : Str)) = false := by decide)
    (hcd : (x == ("__classdict__" : Str)) = false := by decide) (hg : Gl X "sorted" := by rfl) (he : starEach (Expr.Name x np :: []) X.env = (false, eval (.Name x np) X.env) :: starEach [] X.env := by rfl) (hpl : (backTo pos (starEach [] X.env)).any (·.1) = false := by rfl) :
    DE X W (.Call (.Name "sorted" p) [.Name x np] [] pos) (eSortR i) := by
  refine weakE (pe_callB call_sort hg hm PyProof.Rows.boot_sorted (pa_cons (pe_var hN hv hd hcd) pa_nil) (by decide) (by decide) he hpl) fun σ H Q ⟨G, F, env, j, h⟩ => ?_
  unfold eSortR at h
  cases hp : pkD env i with
  | none => simp only [hp] at h; exact h.elim
  | some ds =>
    simp only [hp] at h
    obtain ⟨l, vs, h1, h2, h4⟩ := j.pk hp
    refine ⟨.ref l, h1, ?_⟩
    refine lift_end j h fun c hg q => ?_
    unfold gSort1 at hg
    cases e : strsD ds with
    | some ys =>
      rw [e] at hg
      cases hg
      have e2 := strsD_eq e
      subst e2
      obtain rfl := FzL.strs h4
      refine .inl ⟨l, ys, rfl, h2, fun zs p hp hz hn => ?_⟩
      have := srt_unique lin_s hp (sortedS_pw hz)
      subst this
      exact q _ _ _ (.one hn) (.lst (.inl (.inl upd_same)) (fz_strs _))
    | none =>
      rw [e] at hg
      have hg : (match intsD ds with
        | some ys => some (PyData.list ((srt ltI ys).map .int))
        | none => none) = some c := hg
      cases e3 : intsD ds with
      | none => rw [e3] at hg; cases hg
      | some ys =>
        rw [e3] at hg
        cases hg
        have e2 := intsD_eq e3
        subst e2
        obtain rfl := FzL.ints h4
        refine .inr ⟨l, ys, rfl, h2, fun zs p hp hz hn => ?_⟩
        have := srt_unique lin_i hp (hz.imp fun {a b} h => decide_eq_false (by omega))
        subst this
        exact q _ _ _ (.one hn) (.lst (.inl (.inl upd_same)) (fz_ints2 _))
end
section
variable {e : Ev} {i : Nat} {ds : List PyData} {g : PyData → PyData → Option PyData} {f : EM}
theorem e2R_ap {e1 : Ev} {x : PyData} (hf : f e = .ok x e1) (h : e1[i]? = some (some (.nd .lst (ds.map .fr)))) : e2R g f i e = liftF (g x (.list ds)) e1 := by
  unfold e2R
  rw [hf]
  show (match pkD e1 i with
  | some ds => liftF (g x (.list ds)) e1
  | none => .no) = _
  rw [pkD_at h]
theorem t2R_ap : t2R g f i e = (e2R g f i e).bind toB := rfl
theorem eSortR_ap (h : e[i]? = some (some (.nd .lst (ds.map .fr)))) : eSortR i e = lift (gSort1 ds) e := by
  unfold eSortR
  rw [pkD_at h]
end
end Ly

set_option Elab.async false
set_option linter.all false
set_option maxRecDepth 100000
set_option maxHeartbeats 4000000
set_option autoImplicit false
namespace Ly
open PySem PySem.Spec L2
/-! ## x op= e -/
def sAug (i : Nat) (g : PyData → PyData → Option PyData) (f : EM) : SM := fun e => match frD (e[i]?.join) with
  | some _ => (f e).out fun y e1 => (match frD (e1[i]?.join) with
    | some x => (lift (g x y) e1).out fun z e2 => .nx (e2.set i (some (.fr z)))
    | none => .no)
  | none => .no
theorem join_some {o : Option (Option O)} {d : PyData} (h : frD o.join = some d) : o = some (some (.fr d)) := by
  cases o with
  | none => cases h
  | some o =>
    have h : frD o = some d := h
    rw [frD_some h]
section
variable {X : Cx} {W : WX} {ks : List Nat} {e : Expr} {f : EM} {pos : Pos}
theorem s_aug (i : Nat) {x : Str} {op : Operator} {r : R2} {g : PyData → PyData → Option PyData} {pos' : Pos} (hN : X.N.Nodup) (ho : OpR X (inplaceOp op) r) (hs : Snd2 X.K r g) (he : DE X W e f) (hi : X.N[i]? = some x := by rfl) (hx : Loc X.env.scope x := by first | exact Or.inl rfl | exact Or.inr rfl)
    (hks : i ∉ ks := by decide) (hf : X.fn x = true ∨ X.env.scope.names.lookup x = some .local := by first | exact .inl rfl | exact .inr rfl) : DS X W ks (.AugAssign (.Name x pos') op e pos) (sAug i g f) := by
  refine weakS (ps_aug hN hi hx he (show PIp X op r from ho) hf) fun D σ H ⟨G, F, env, hk, j, p⟩ => ?_
  unfold sAug at p
  cases h0 : frD (env[i]?.join) with
  | none => simp only [h0] at p; exact p.elim
  | some d0 =>
    simp only [h0] at p
    obtain ⟨v, h1, _⟩ := j.fr (join_some h0)
    refine ⟨v, h1, G, F, env, j, (PostS.out p).imp fun y F1 H1 s1 ⟨e1, j1, p2⟩ u fu => ?_⟩
    cases h2 : frD (e1[i]?.join) with
    | none => simp only [h2] at p2; exact p2.elim
    | some x =>
      simp only [h2] at p2
      obtain ⟨v', h3, fv⟩ := j1.fr (join_some h2)
      rw [h1] at h3
      cases h3
      cases hg : g x y with
      | none => rw [hg] at p2; exact p2.elim
      | some z =>
        rw [hg] at p2
        refine hs F1 H1 v u x y z _ j1.sub fv fu hg fun w F' H' gr fw => ?_
        obtain ⟨s2, j2⟩ := j1.grow gr
        exact p2 F' _ H' s2 (j2.setF fw (by rw [hk]; exact hks))
end
theorem sAug_ap {i : Nat} {g : PyData → PyData → Option PyData} {f : EM} {e e1 : Ev} {x0 x y : PyData} (h0 : e[i]? = some (some (.fr x0))) (hf : f e = .ok y e1) (h1 : e1[i]? = some (some (.fr x))) : sAug i g f e = (lift (g x y) e1).out fun z e2 => .nx (e2.set i (some (.fr z))) := by
  unfold sAug
  rw [h0]
  show (f e).out _ = _
  rw [hf]
  show (match frD (e1[i]?.join) with
    | some x => (lift (g x y) e1).out fun z e2 => Out.nx (e2.set i (some (.fr z)))
    | none => .no) = _
  rw [h1]
  rfl
/-! ## min, max, sum; list(x), tuple(x); str(i) -/
def gMin2 : List PyData → Option PyData
  | [.int i, .int j] => some (.int (if j < i then j else i))
  | _ => none
def gMax2 : List PyData → Option PyData
  | [.int i, .int j] => some (.int (if j > i then j else i))
  | _ => none
theorem two_ints {K : PySem.W.Frag} {F : Hp} {xs : List V} {i j : Int} (h : FzL K F xs [.int i, .int j]) : xs = [.int i, .int j] := by
  cases h with
  | cons a t =>
    cases a
    cases t with
    | cons b t =>
      cases b
      cases t
      rfl
theorem gMin2_eq {as : List PyData} {c : PyData} (h : gMin2 as = some c) : ∃ i j, as = [.int i, .int j] ∧ c = .int (if j < i then j else i) := by
  unfold gMin2 at h
  split at h
  · cases h; exact ⟨_, _, rfl, rfl⟩
  · cases h
theorem gMax2_eq {as : List PyData} {c : PyData} (h : gMax2 as = some c) : ∃ i j, as = [.int i, .int j] ∧ c = .int (if j > i then j else i) := by
  unfold gMax2 at h
  split at h
  · cases h; exact ⟨_, _, rfl, rfl⟩
  · cases h
theorem n_min2 {K : PySem.W.Frag} : SndL K (fun xs H Q => ∃ i j, xs = [.int i, .int j] ∧ Q (.int (if j < i then j else i)) H) gMin2 := by
  intro F H xs as c Q s f hg q
  obtain ⟨i, j, rfl, rfl⟩ := gMin2_eq hg
  exact ⟨i, j, two_ints f, q _ F H .refl (.int _)⟩
theorem n_max2 {K : PySem.W.Frag} : SndL K (fun xs H Q => ∃ i j, xs = [.int i, .int j] ∧ Q (.int (if j > i then j else i)) H) gMax2 := by
  intro F H xs as c Q s f hg q
  obtain ⟨i, j, rfl, rfl⟩ := gMax2_eq hg
  exact ⟨i, j, two_ints f, q _ F H .refl (.int _)⟩
def oneL : List PyData → Option (List PyData)
  | [.list ds] => some ds
  | _ => none
theorem oneL_eq {as ds : List PyData} (h : oneL as = some ds) : as = [.list ds] := by
  unfold oneL at h
  split at h
  · cases h; rfl
  · cases h
theorem one_list {K : PySem.W.Frag} {F : Hp} {xs : List V} {ds : List PyData} (h : FzL K F xs [.list ds]) : ∃ a vs, xs = [.ref a] ∧ SqL K F a vs ∧ FzL K F vs ds := by
  cases h with
  | cons a t =>
    cases t
    cases a with
    | lst h1 t1 => exact ⟨_, _, rfl, h1, t1⟩
def gSum (as : List PyData) : Option PyData := ((oneL as).bind intsD).map fun ns => .int ns.sum
theorem n_sum {K : PySem.W.Frag} : SndL K (rSum K) gSum := by
  intro F H xs as c Q s f hg q
  unfold gSum at hg
  cases h1 : oneL as with
  | none => rw [h1] at hg; cases hg
  | some ds =>
    rw [h1] at hg
    have hg : (intsD ds).map (fun ns => PyData.int ns.sum) = some c := hg
    cases h2 : intsD ds with
    | none => rw [h2] at hg; cases hg
    | some ns =>
      rw [h2] at hg
      cases hg
      obtain rfl := oneL_eq h1
      obtain ⟨a, vs, rfl, h3, h4⟩ := one_list f
      obtain rfl := intsD_eq h2
      obtain rfl := FzL.ints h4
      exact ⟨a, ns, rfl, s.seq h3, q _ F H .refl (.int _)⟩
def minI : List Int → Option Int
  | [] => none
  | x :: r => some (r.foldl (fun a b => if b < a then b else a) x)
def maxI : List Int → Option Int
  | [] => none
  | x :: r => some (r.foldl (fun a b => if a < b then b else a) x)
theorem minI_le : ∀ (r : List Int) (x : Int), (r.foldl (fun a b => if b < a then b else a) x ∈ x :: r) ∧ ∀ y ∈ x :: r, r.foldl (fun a b => if b < a then b else a) x ≤ y
  | [], x => ⟨List.mem_cons_self, fun y hy => by rw [List.mem_singleton] at hy; rw [hy]; exact Int.le_refl _⟩
  | z :: r, x => by
    obtain ⟨h1, h2⟩ := minI_le r (if z < x then z else x)
    refine ⟨?_, fun y hy => ?_⟩
    · rw [List.foldl_cons]
      rcases List.mem_cons.mp h1 with h | h
      · rw [h]
        by_cases c : z < x
        · rw [if_pos c]; exact List.mem_cons_of_mem _ List.mem_cons_self
        · rw [if_neg c]; exact List.mem_cons_self
      · exact List.mem_cons_of_mem _ (List.mem_cons_of_mem _ h)
    · rw [List.foldl_cons]
      have h3 := h2 _ List.mem_cons_self
      rcases List.mem_cons.mp hy with rfl | hy
      · by_cases c : z < y
        · rw [if_pos c] at h3 ⊢; omega
        · rw [if_neg c] at h3 ⊢; omega
      · rcases List.mem_cons.mp hy with rfl | hy
        · by_cases c : y < x
          · rw [if_pos c] at h3 ⊢; omega
          · rw [if_neg c] at h3 ⊢; omega
        · exact h2 y (List.mem_cons_of_mem _ hy)
theorem maxI_le : ∀ (r : List Int) (x : Int), (r.foldl (fun a b => if a < b then b else a) x ∈ x :: r) ∧ ∀ y ∈ x :: r, y ≤ r.foldl (fun a b => if a < b then b else a) x
  | [], x => ⟨List.mem_cons_self, fun y hy => by rw [List.mem_singleton] at hy; rw [hy]; exact Int.le_refl _⟩
  | z :: r, x => by
    obtain ⟨h1, h2⟩ := maxI_le r (if x < z then z else x)
    refine ⟨?_, fun y hy => ?_⟩
    · rw [List.foldl_cons]
      rcases List.mem_cons.mp h1 with h | h
      · rw [h]
        by_cases c : x < z
        · rw [if_pos c]; exact List.mem_cons_of_mem _ List.mem_cons_self
        · rw [if_neg c]; exact List.mem_cons_self
      · exact List.mem_cons_of_mem _ (List.mem_cons_of_mem _ h)
    · rw [List.foldl_cons]
      have h3 := h2 _ List.mem_cons_self
      rcases List.mem_cons.mp hy with rfl | hy
      · by_cases c : y < z
        · rw [if_pos c] at h3 ⊢; omega
        · rw [if_neg c] at h3 ⊢; omega
      · rcases List.mem_cons.mp hy with rfl | hy
        · by_cases c : x < y
          · rw [if_pos c] at h3 ⊢; omega
          · rw [if_neg c] at h3 ⊢; omega
        · exact h2 y (List.mem_cons_of_mem _ hy)
def gMinL (as : List PyData) : Option PyData := (((oneL as).bind intsD).bind minI).map .int
def gMaxL (as : List PyData) : Option PyData := (((oneL as).bind intsD).bind maxI).map .int
theorem n_minL {K : PySem.W.Frag} : SndL K (rMin K) gMinL := by
  intro F H xs as c Q s f hg q
  unfold gMinL at hg
  cases h1 : oneL as with
  | none => rw [h1] at hg; cases hg
  | some ds =>
    rw [h1] at hg
    have hg : ((intsD ds).bind minI).map PyData.int = some c := hg
    cases h2 : intsD ds with
    | none => rw [h2] at hg; cases hg
    | some ns =>
      rw [h2] at hg
      have hg3 : (minI ns).map PyData.int = some c := hg
      clear hg
      obtain rfl := oneL_eq h1
      obtain ⟨a, vs, rfl, h3, h4⟩ := one_list f
      obtain rfl := intsD_eq h2
      obtain rfl := FzL.ints h4
      cases ns with
      | nil => cases hg3
      | cons x r =>
        cases Option.some.inj hg3
        refine ⟨a, x :: r, rfl, s.seq h3, by rw [List.length_cons]; omega, fun m hm hle => ?_⟩
        obtain ⟨k1, k2⟩ := minI_le r x
        have e : m = r.foldl (fun a b => if b < a then b else a) x := Int.le_antisymm (hle _ k1) (k2 m hm)
        rw [e]
        exact q _ F H .refl (.int _)
theorem n_maxL {K : PySem.W.Frag} : SndL K (rMax K) gMaxL := by
  intro F H xs as c Q s f hg q
  unfold gMaxL at hg
  cases h1 : oneL as with
  | none => rw [h1] at hg; cases hg
  | some ds =>
    rw [h1] at hg
    have hg : ((intsD ds).bind maxI).map PyData.int = some c := hg
    cases h2 : intsD ds with
    | none => rw [h2] at hg; cases hg
    | some ns =>
      rw [h2] at hg
      have hg3 : (maxI ns).map PyData.int = some c := hg
      clear hg
      obtain rfl := oneL_eq h1
      obtain ⟨a, vs, rfl, h3, h4⟩ := one_list f
      obtain rfl := intsD_eq h2
      obtain rfl := FzL.ints h4
      cases ns with
      | nil => cases hg3
      | cons x r =>
        cases Option.some.inj hg3
        refine ⟨a, x :: r, rfl, s.seq h3, by rw [List.length_cons]; omega, fun m hm hle => ?_⟩
        obtain ⟨k1, k2⟩ := maxI_le r x
        have e : m = r.foldl (fun a b => if a < b then b else a) x := Int.le_antisymm (k2 m hm) (hle _ k1)
        rw [e]
        exact q _ F H .refl (.int _)
/-- list(x), tuple(x): x a list or a tuple -/
def gListOf : List PyData → Option PyData
  | [.list ds] => some (.list ds)
  | [.tuple ds] => some (.list ds)
  | _ => none
theorem n_listOf {K : PySem.W.Frag} : SndL K (fun xs H Q => ∃ p ys, xs = [.ref p] ∧ (SqL K H p ys ∨ SqT K H p ys) ∧ ∀ l, H l = none → Q (.ref l) (upd H l (.lst ys))) gListOf := by
  intro F H xs as c Q s f hg q
  cases f with
  | nil => cases hg
  | @cons v vs d ds h t =>
    cases t with
    | cons _ _ => cases d <;> cases hg
    | nil =>
      cases h with
      | lst h1 t1 =>
        cases hg
        exact ⟨_, _, rfl, .inl (s.seq h1), fun p hp => q _ _ _ (.one hp) (.lst (.inl (.inl upd_same)) (FzL.mono (same_new (s.free hp)) t1))⟩
      | tup h1 t1 =>
        cases hg
        exact ⟨_, _, rfl, .inr (sameT s (.inl (.inl h1))), fun p hp => q _ _ _ (.one hp) (.lst (.inl (.inl upd_same)) (FzL.mono (same_new (s.free hp)) t1))⟩
      | _ => cases hg
def gTupOf : List PyData → Option PyData
  | [.list ds] => some (.tuple ds)
  | [.tuple ds] => some (.tuple ds)
  | _ => none
theorem n_tupOf {K : PySem.W.Frag} : SndL K (fun xs H Q => ∃ p ys, xs = [.ref p] ∧ ((SqL K H p ys ∧ ∀ l, H l = none → Q (.ref l) (upd H l (.tup ys))) ∨ (SqT K H p ys ∧ Q (.ref p) H))) gTupOf := by
  intro F H xs as c Q s f hg q
  cases f with
  | nil => cases hg
  | @cons v vs d ds h t =>
    cases t with
    | cons _ _ => cases d <;> cases hg
    | nil =>
      cases h with
      | lst h1 t1 =>
        cases hg
        exact ⟨_, _, rfl, .inl ⟨s.seq h1, fun p hp => q _ _ _ (.one hp) (.tup upd_same (FzL.mono (same_new (s.free hp)) t1))⟩⟩
      | tup h1 t1 =>
        cases hg
        exact ⟨_, _, rfl, .inr ⟨sameT s (.inl (.inl h1)), q _ F H .refl (.tup h1 t1)⟩⟩
      | _ => cases hg
/-- str(i) -/
def gStrI : List PyData → Option PyData
  | [.int i] => if i.natAbs.log2 < 1920 then some (.str (toString i)) else none
  | _ => none
theorem n_strI {K : PySem.W.Frag} : SndL K (fun xs H Q => ∃ i, xs = [.int i] ∧ i.natAbs.log2 < 1920 ∧ Q (.str (toString i)) H) gStrI := by
  intro F H xs as c Q s f hg q
  cases f with
  | nil => cases hg
  | @cons v vs d ds h t =>
    cases t with
    | cons _ _ => cases d <;> cases hg
    | nil =>
      cases h with
      | int i =>
        have hg : (if i.natAbs.log2 < 1920 then some (PyData.str (toString i)) else none) = some c := hg
        by_cases hi : i.natAbs.log2 < 1920
        · rw [if_pos hi] at hg
          cases hg
          exact ⟨i, rfl, hi, q _ F H .refl (.str _)⟩
        · rw [if_neg hi] at hg; cases hg
      | _ => cases hg
/-! ## reversed(x) as an iterable -/
def revD : List PyData → Option (List PyData)
  | [.list ds] => some ds.reverse
  | _ => none
theorem walks_rev {K : PySem.W.Frag} {F H : Hp} {a : Addr} {xs : List V} {ds : List PyData} (h : SqL K F a xs) (t : FzL K F xs ds) : Walks K (Itv K a xs.length) F H ds.reverse := by
  intro F' H' s s' i
  have hl := t.length
  refine ⟨fun d e => ?_, fun e => by rw [List.length_reverse] at e; show xs.length ≤ i; omega⟩
  have hi : i < ds.length := by
    have := (List.getElem?_eq_some_iff.mp e).1
    rw [List.length_reverse] at this
    exact this
  rw [List.getElem?_reverse hi, ← hl] at e
  obtain ⟨v, h1, h2⟩ := t.get e
  refine ⟨⟨by omega, xs, v, s'.seq (s.seq h), h1⟩, fun x H'' ⟨e1, y⟩ => ?_⟩
  subst e1
  have z := y xs (s'.seq (s.seq h))
  rw [h1] at z
  cases z
  exact ⟨F', .refl, h2.mono s⟩
theorem i_rev {X : Cx} {W : WX} {tg e : Expr} {m : LM} {p pos : Pos} (hm : X.mg "reversed" = none) (ha : DL X W [e] m) (hg : Gl X "reversed" := by rfl) (hs : starEach [e] X.env = [(false, eval e X.env)] := by rfl) : DI X W tg (.Call (.Name "reversed" p) [e] [] pos) (iL revD m) := by
  refine weakI (pi_reversed hg hm ha hs) fun σ H R ⟨G, F, env, j, h⟩ => ?_
  refine ⟨G, F, env, j, h.bind.imp fun xs F1 H1 s1 ⟨e1, j1, p2⟩ vs fv => ?_⟩
  cases fv with
  | nil => exact p2.elim
  | @cons v vs d ds h t =>
    cases t with
    | cons _ _ => cases d <;> exact p2.elim
    | nil =>
      cases h with
      | lst h1 t1 => exact ⟨_, _, rfl, j1.sub.seq h1, p2 F1 H1 (Same.refl F1) j1 _ (walks_rev h1 t1)⟩
      | _ => exact p2.elim
/-! ## x[::-1] -/
def revS (z : Str) : Str := ⟨z.cps.toList.reverse.toArray⟩
def gRev : PyData → Option PyData
  | .list ds => some (.list ds.reverse)
  | .str z => if z.length ≤ sz then some (.str (revS z)) else none
  | _ => none
theorem idx_rev (n : Nat) : Builtin.Str.strSliceIndices none none (-1) n = (List.range n).reverse := by
  unfold Builtin.Str.strSliceIndices
  show sliceRange ((n : Int) - 1) (-1) (-1) = _
  rw [PySem.W.krv_sliceRange, PySem.W.krv_range]
def rRevA (K : PySem.W.Frag) : V → Hp → VK → Prop := fun x H Q => (∃ a xs, x = .ref a ∧ SqL K H a xs ∧ ∀ p, H p = none → Q (.ref p) (upd H p (.lst xs.reverse))) ∨ ∃ z, x = .str z ∧ z.length ≤ sz ∧ Q (.str (revS z)) H
theorem n_rev {K : PySem.W.Frag} : Snd1 K (rRevA K) gRev := by
  intro F H x a c Q s fx hg q
  cases fx with
  | lst h1 t1 =>
    cases hg
    exact .inl ⟨_, _, rfl, s.seq h1, fun p hp => q _ _ _ (.one hp) (.lst (.inl (.inl upd_same)) (FzL.mono (same_new (s.free hp)) t1.rev))⟩
  | str z =>
    have hg : (if z.length ≤ sz then some (PyData.str (revS z)) else none) = some c := hg
    by_cases h : z.length ≤ sz
    · rw [if_pos h] at hg
      cases hg
      exact .inr ⟨z, rfl, h, q _ F H .refl (.str _)⟩
    · rw [if_neg h] at hg; cases hg
  | _ => cases hg
theorem pick_rev (z : Str) : ((Builtin.Str.strSliceIndices none none (-1) z.length).filterMap (z.cps[·]?)).toArray = z.cps.toList.reverse.toArray := by
  rw [idx_rev, List.filterMap_reverse]
  exact congrArg (fun l : List Nat => l.reverse.toArray) (PySem.W.krv_all z.cps)
open PyProof.Rows in
theorem pe_revA {X : Cx} {e : Expr} {te : TE} {k : Nat} {p1 p2 p3 pos : Pos} (he : PE X e te) : PE X (.Subscript e (.Slice none none (some (.UnaryOp .USub (.Constant (.int 1) k p1) p2)) p3) pos) (tUn (rRevA X.K) te) := by
  refine ⟨fun pins s σ H Q I h => ?_⟩
  refine Subscript_ (thn (he.run pins s σ H _ I h) fun v s1 ⟨x, H1, I1, r1, q1⟩ => ?_)
  have hst : PO X (some (.UnaryOp .USub (.Constant (.int 1) k p1) p2)) (tPart (tUn (rU fun i => .int (-i)) (tC (.int 1)))) := po_some (pe_un un_neg pe_int)
  refine wpAny_Slice (thn (po_none.run pins s1 σ H1 (fun o H2 => o = none ∧ H2 = H1) I1 ⟨rfl, rfl⟩) fun vl s2 ⟨l, H2, I2, pl, el, e2⟩ => ?_)
  subst el e2
  refine thn (po_none.run pins s2 σ H2 (fun o H3 => o = none ∧ H3 = H2) I2 ⟨rfl, rfl⟩) fun vu s3 ⟨u, H3, I3, pu, eu, e3⟩ => ?_
  subst eu e3
  refine thn (hst.run pins s3 σ H3 (fun o H4 => o = some (-1) ∧ H4 = H3) I3 ⟨1, rfl, -1, rfl, rfl, rfl⟩) fun vs s4 ⟨o, H4, I4, ps, eo, e4⟩ => ?_
  subst eo e4
  have I5 : Inv X pins σ H4 { s4 with heap := s4.heap.push { cls := .type "slice", data := .fields #[vl, vu, vs] } } := I4.kept (t' := s4.toks) fun b ob q => Heap.get?_push_of_some _ q
  rcases q1 with ⟨a, xs, ex, hx, q⟩ | ⟨z, ez, hz, q⟩
  · subst ex
    cases r1
    obtain ⟨its, r, ht, hz⟩ := I5.list hx
    have hlen := r.length
    show wpAny (model X.prog X.w) X.A (subscriptTail e (.Slice none none (some (.UnaryOp .USub (.Constant (.int 1) k p1) p2)) p3) (.ref a) (.ref s4.heap.objs.size)) (EP X pins σ Q) X.xe { s4 with heap := s4.heap.push { cls := .type "slice", data := .fields #[vl, vu, vs] } }
    refine tail_any (ops := [.ref a, .ref s4.heap.objs.size]) ht.isList.typeIs (PySem.slot_list_getitem.lookup) ?_ (by with_unfolding_all rfl)
    refine wpAny_getItem_list_slice ht.isList (Heap.IsSliceOf.new _ vl vu vs) pl pu ps (by decide) ?_ (by rw [List.size_toArray]; omega)
    rw [PySem.W.krv_pick]
    refine ⟨.ref _, _, I5.laid (t' := s4.toks) (o := .lst xs.reverse) (fun b ob q => Heap.get?_push_of_some _ q) (Nat.le_refl _) ?_, rfl, q _ (I5.hok.fresh (Nat.le_refl _))⟩
    exact ⟨by rw [List.length_reverse]; exact hz, _, 0, r.reverse, Heap.get?_push_size _ rfl⟩
  · subst ez
    obtain ⟨t, rfl⟩ := r1
    obtain ⟨l, el, hl⟩ := IsPart.raw pl
    obtain ⟨u, eu, hu⟩ := IsPart.raw pu
    obtain ⟨st, es, hst⟩ := IsPart.raw ps
    subst el eu es
    have hnew := Heap.IsSliceOf.new s4.heap (partValue l) (partValue u) (partValue st)
    obtain ⟨os, hos, hcs, hds⟩ := hnew
    show wpAny (model X.prog X.w) X.A (subscriptTail e (.Slice none none (some (.UnaryOp .USub (.Constant (.int 1) k p1) p2)) p3) (.str z t) (.ref s4.heap.objs.size)) (EP X pins σ Q) X.xe { s4 with heap := s4.heap.push { cls := .type "slice", data := .fields #[partValue l, partValue u, partValue st] } }
    refine tail_any (ops := [.str z t, .ref s4.heap.objs.size]) (typeIs_str _ _ _) F.slot_str_getitem.lookup ?_ (by with_unfolding_all rfl)
    refine wpAny_getItem_str_slice (l := l) (u := u) (st := st) ⟨os, hos, hcs, hds⟩ (by rw [hst]; rfl) ?_
    show Made.post (if ((st.map (·.1)).getD 1 == 1 && (Builtin.Str.strSliceIndices (l.map (·.1)) (u.map (·.1)) ((st.map (·.1)).getD 1) z.length).length == z.length) = true then Made.val (.str z t)
      else Made.str ⟨((Builtin.Str.strSliceIndices (l.map (·.1)) (u.map (·.1)) ((st.map (·.1)).getD 1) z.length).filterMap (z.cps[·]?)).toArray⟩) (EP X pins σ Q) _
    rw [hl, hu, hst]
    show Made.post (if ((-1 : Int) == 1 && (Builtin.Str.strSliceIndices none none (-1) z.length).length == z.length) = true then Made.val (.str z t)
      else Made.str ⟨((Builtin.Str.strSliceIndices none none (-1) z.length).filterMap (z.cps[·]?)).toArray⟩) (EP X pins σ Q) _
    rw [if_neg (show ¬ ((-1 : Int) == 1 && (Builtin.Str.strSliceIndices none none (-1) z.length).length == z.length) = true from fun q => by rw [Bool.and_eq_true] at q; exact absurd q.1 (by decide)), pick_rev]
    refine ⟨?_, .str _, H4, I5.tok _, ⟨_, rfl⟩, q⟩
    show (z.cps.toList.reverse.toArray).size ≤ sizeLine
    rw [List.size_toArray, List.length_reverse, Array.length_toList, sz_eq]
    exact hz
section
variable {X : Cx} {W : WX} {a : Expr} {f : EM} {pos : Pos}
theorem d_rev {k : Nat} {p1 p2 p3 : Pos} (ha : DE X W a f) : DE X W (.Subscript a (.Slice none none (some (.UnaryOp .USub (.Constant (.int 1) k p1) p2)) p3) pos) (e1 gRev f) := weakE (pe_revA ha) (can1 n_rev)
end
/-! ## owned: x.pop() as an expression -/
def ePop (i : Nat) : EM := fun e => match lstAt e i with
  | some xs => (match xs.getLast? with
    | some (.fr d) => .ok d (e.set i (some (.nd .lst xs.dropLast)))
    | _ => .no)
  | none => .no
end Ly

set_option Elab.async false
set_option linter.all false
set_option maxRecDepth 100000
set_option maxHeartbeats 4000000
set_option autoImplicit false
namespace RT
open PySem PySem.Spec PyProof.Rows
section
variable {prog : Program} {w : World} {A : Around} {E : Value → Shared → Prop} {s : Shared}
theorem init_list_rev {R : Result → Shared → Prop} {it l : Addr} {items : Array Value} (hh : A.handled = none) (hit : s.heap.IsRevIter it l ((items.size : Int) - 1)) (hl : s.heap.IsList l items) (hne : l ≠ it) (hn : items.size ≤ sizeLine)
    (S : Addr) (hS : s.heap.get? S = some { cls := .type "list", data := .seq #[] }) (hSi : S ≠ it) (hSl : S ≠ l)
    (hR : ∀ h' tk acc' c', (∀ b o, b ≠ S → b ≠ it → s.heap.get? b = some o → h'.get? b = some o) → h'.get? S = some { cls := .type "list", dict := none, data := .seq acc' c', slots := #[] } →
      ItemsOf (fun i v => items[items.size - 1 - i]? = some v) acc' items.size → R (.ok (.ret .none)) { s with heap := h', toks := tk }) :
    wpAny (model prog w) A.in1 (Builtin.«list.__init__» ⟨[.ref S, .ref it], []⟩)
      (fun fin s' => match fin with | .done f => R (.ok f) s' | .again c' => c'.quiet = true ∧ codeAny (model prog w) A c' R s') (fun e s' => R (.error e) s') s := by
  have W := (Walks.listRev (prog := prog) (w := w) (A := A.in1) hh it l hne items).toS
  have hSf : S ∉ [it, l] := by simp only [List.mem_cons, List.not_mem_nil, or_false, not_or]; exact ⟨hSi, hSl⟩
  show wpAny _ _ (do let old ← Builtin.List.listItems (.ref S); Builtin.List.listUpdate (.ref S) (fun _ => #[]); letGo old.toList.reverse; Builtin.List.listExtendWith (.ref S) (.ref it) .none) _ _ s
  refine wpAny_bind ?_
  unfold Builtin.List.listItems
  refine wpAny_bind (wpAny_seqItems hS rfl (wpAny_pure ?_))
  show wpAny _ _ (updateSeq S (fun _ => #[]) >>= fun _ => letGo (#[] : Array Value).toList.reverse >>= fun _ => Builtin.List.listExtendWith (.ref S) (.ref it) .none) _ _ s
  refine wpAny_bind (wpAny_updateSeq hS rfl ?_)
  have hS₂ := Heap.get?_update_self (Obj.mapSeq (fun _ => (#[] : Array Value))) hS rfl
  have oth : ∀ b o, b ≠ S → s.heap.get? b = some o → (s.heap.update S (Obj.mapSeq (fun _ => (#[] : Array Value)))).get? b = some o :=
    fun b o hb e => (Heap.get?_update_other _ _ (Ne.symm hb)).trans e
  refine wpAny_bind (wpAny_letGo ?_)
  have hit1 : (s.heap.update S (Obj.mapSeq (fun _ => (#[] : Array Value)))).IsRevIter it l ((items.size : Int) - 1) := hit.at fun o e => oth it o (Ne.symm hSi) e
  have hl1 : (s.heap.update S (Obj.mapSeq (fun _ => (#[] : Array Value)))).IsList l items := by
    obtain ⟨o, ho, r⟩ := hl
    exact ⟨o, oth l o (Ne.symm hSl) ho, r⟩
  have hT : ({ s with heap := s.heap.update S (Obj.mapSeq (fun _ => (#[] : Array Value))) } : Shared).TypeIs (.ref it) "list_reverseiterator" := Heap.IsRevIter.typeIs (s := { s with heap := s.heap.update S (Obj.mapSeq (fun _ => (#[] : Array Value))) }) hit1
  have h1 : Builtin.List.listSameRef (.ref S) (.ref it) = false := by simp [Builtin.List.listSameRef, hSi]
  unfold Builtin.List.listExtendWith
  refine wpAny_bind (wpAny_typeOf hT ?_)
  rw [if_neg (by rw [h1]; decide)]
  refine wpAny_bind (wpAny_pyIter_revIter (s := { s with heap := s.heap.update S (Obj.mapSeq (fun _ => (#[] : Array Value))) }) hit1 ?_)
  refine wpAny_bind (wpAny_holding ?_)
  unfold Builtin.List.listLengthHint
  refine wpAny_bind (wpAny_specialOf hT nolen_lri ?_)
  show wpAny _ _ (specialOf (Value.ref it) (Str.ofString "__length_hint__") >>= _) _ _ _
  refine wpAny_bind (wpAny_specialOf hT hint_lri ?_)
  generalize hid : ("list_reverseiterator.__length_hint__" : String) = id0
  wp_delta
  rw [show splitId id0 = some ("list_reverseiterator", "__length_hint__") from by subst hid; decide +kernel]
  subst hid
  refine wpAny_bind (wpAny_isInstance (b := true) hT (by rw [isSubtype_type]; kernel_rfl) ?_)
  refine wpAny_pure ?_
  rw [if_neg (by decide)]
  have e0 : ((items.size : Nat) : Int) - 1 - ((0 : Nat) : Int) = (items.size : Int) - 1 := by omega
  refine wpAny_pure ⟨plainId_quiet F.plain_extend_loop _, codeAny_extend_loopS W hn _ hSf _ items.size 0 _ _ _ rfl (Nat.zero_le _) ⟨Nat.zero_le _, by rw [e0]; exact hit1, hl1⟩ hS₂ (ItemsOf.nil _) fun s' acc' c' hm hS' hacc => ?_⟩
  rw [Moved.eq_with hm]
  refine hR s'.heap s'.toks acc' c' (fun b o hb hb2 e => hm.heap b o (fun hmem => ?_) (oth b o hb e)) hS' hacc
  rcases List.mem_cons.mp hmem with e' | hmem
  · exact hb e'
  · exact hb2 (List.mem_singleton.mp hmem)
theorem call_list_rev {it l : Addr} {items : Array Value} {Q : Value → Shared → Prop} (hh : A.handled = none) (hit : s.heap.IsRevIter it l ((items.size : Int) - 1)) (hl : s.heap.IsList l items) (hne : l ≠ it) (hn : items.size ≤ sizeLine)
    (hQ : ∀ (h' : Heap) (tk : Nat) (acc : Array Value) (c' : Nat), (∀ b o, b ≠ it → s.heap.get? b = some o → h'.get? b = some o) → h'.get? s.heap.objs.size = some { cls := .type "list", dict := none, data := .seq acc c', slots := #[] } →
      ItemsOf (fun i v => items[items.size - 1 - i]? = some v) acc items.size → Q (.ref s.heap.objs.size) { s with heap := h', toks := tk }) :
    wpAny (model prog w) A (call (.type "list") [.ref it]) Q E s := by
  refine callType_codes (Q₁ := fun obj s₁ => obj = .ref s.heap.objs.size ∧ s₁ = { s with heap := s.heap.push { cls := .type "list", data := .seq #[] } }) F.called_list (F.typeCall_list_1 _) F.entry_list_init
    (code_list_new _ ⟨rfl, rfl⟩) fun obj s₁ h₁ => ?_
  obtain ⟨rfl, rfl⟩ := h₁
  have hS : (s.heap.push { cls := .type "list", data := .seq #[] }).get? s.heap.objs.size = some { cls := .type "list", data := .seq #[] } := Heap.get?_push_size _ rfl
  obtain ⟨oi, hoi, _⟩ := id hit
  obtain ⟨ol, hol, _⟩ := id hl
  refine ⟨⟨_, hS, rfl⟩, F.args_list_init_2 _ _, init_list_rev (A := A.in1) (s := { s with heap := s.heap.push { cls := .type "list", data := .seq #[] } }) hh (hit.at fun o e => Heap.get?_push_of_some _ e) (hl.push _) hne hn _ hS (Nat.ne_of_gt (Heap.lt_size hoi)) (Nat.ne_of_gt (Heap.lt_size hol)) fun h' tk acc' c' hk hS' hacc => ?_⟩
  exact ⟨rfl, hQ h' tk acc' c' (fun b o hb e => hk b o (Nat.ne_of_lt (Heap.lt_size e)) hb (Heap.get?_push_of_some _ e)) hS' hacc⟩
end
end RT
namespace Ly
open PySem PySem.Spec L2
/-- list(reversed(x)), x a list -/
def rLRev (K : PySem.W.Frag) : V → Hp → VK → Prop := fun x H Q => ∃ (a : Addr) (xs : List V), x = .ref a ∧ SqL K H a xs ∧ ∀ q, H q = none → Q (.ref q) (upd H q (.lst xs.reverse))
def gRevL : PyData → Option PyData
  | .list ds => some (.list ds.reverse)
  | _ => none
theorem n_revL {K : PySem.W.Frag} : Snd1 K (rLRev K) gRevL := by
  intro F H x a c Q s fx hg q
  cases fx with
  | lst h1 t1 =>
    cases hg
    exact ⟨_, _, rfl, s.seq h1, fun p hp => q _ _ _ (.one hp) (.lst (.inl (.inl upd_same)) (FzL.mono (same_new (s.free hp)) t1.rev))⟩
  | _ => cases hg
open PyProof.Rows in
theorem pe_listRev {X : Cx} {e : Expr} {te : TE} {p p2 pos pos2 : Pos} (hc : X.calm = true) (hg : Gl X "list") (hm : X.mg "list" = none) (hg2 : Gl X "reversed") (hm2 : X.mg "reversed" = none) (he : PE X e te)
    (hs : starEach [e] X.env = (false, eval e X.env) :: starEach [] X.env := by rfl)
    (hs2 : starEach [.Call (.Name "reversed" p2) [e] [] pos2] X.env = (false, eval (.Call (.Name "reversed" p2) [e] [] pos2) X.env) :: starEach [] X.env := by rfl) :
    PE X (.Call (.Name "list" p) [.Call (.Name "reversed" p2) [e] [] pos2] [] pos) (tUn (rLRev X.K) te) := by
  refine ⟨fun pins s σ H Q I h => ?_⟩
  refine Call_ (ld_blt I hg hm boot_list (PyProof.Rows.callWith_type1 (PyProof.Rows.args_cons (Call_ (ld_blt I hg2 hm2 PyProof.Rows.boot_reversed (PyProof.Rows.callWith_type1 (PyProof.Rows.args_cons (thn (he.run pins s σ H _ I h) fun u s1 ⟨v, H1, I1, r1, q1⟩ => PyProof.Rows.args_nil ?_) hs) hs rfl))) hs2) hs2 rfl))
  obtain ⟨a, xs, ev, hq, q⟩ := q1
  subst ev
  obtain rfl : u = Value.ref a := r1
  obtain ⟨its, rv, p', hz⟩ := I1.list hq
  refine call_reversed_list p'.isList (PyProof.Rows.args_nil ?_)
  have k0 : ∀ b o, s1.heap.get? b = some o → (s1.heap.push (revObj a ((its.toArray.size : Int) - 1))).get? b = some o := fun b o e => Heap.get?_push_of_some _ e
  have I2 : Inv X pins σ H1 { s1 with heap := s1.heap.push (revObj a ((its.toArray.size : Int) - 1)) } := I1.kept (t' := s1.toks) k0
  obtain ⟨f0, f1, f2, f3, f4, f5⟩ := I1.fpOk (H' := H1) (b := s1.heap.objs.size) (Nat.le_refl _) (I1.hok.fresh (Nat.le_refl _))
  have hl := p'.isList
  obtain ⟨ol, hol, _⟩ := id hl
  have hne : a ≠ s1.heap.objs.size := Nat.ne_of_lt (Heap.lt_size hol)
  have hn : its.toArray.size ≤ sizeLine := by rw [List.size_toArray, ← rv.length]; exact hz
  refine RT.call_list_rev (s := { s1 with heap := s1.heap.push (revObj a ((its.toArray.size : Int) - 1)) }) (I1.ok.hd hc) ⟨_, Heap.get?_push_size _ rfl, rfl, rfl⟩ (hl.push _) hne hn fun h' tk acc c' hk hS hi => ?_
  have hS' : h'.get? (s1.heap.push (revObj a ((its.toArray.size : Int) - 1))).objs.size = some { cls := .type "list", dict := none, data := .seq acc c', slots := #[] } := hS
  have fp : ∀ b ∈ [s1.heap.objs.size], FpOk X pins H1 b := fun b hb => by
    rw [List.mem_singleton] at hb
    subst hb
    exact ⟨f0, f1, f2, f3, f4, f5⟩
  refine ⟨.ref _, upd H1 (s1.heap.push (revObj a ((its.toArray.size : Int) - 1))).objs.size (.lst xs.reverse), I2.turnedNew (t' := tk) (ch := [s1.heap.objs.size]) (fun b o hb e => hk b o (fun z => hb (by rw [z]; exact List.mem_singleton.mpr rfl)) e) fp (Nat.le_refl _) (show ObjOk X.prog X.w _ _ _ (.lst xs.reverse) from ⟨by rw [List.length_reverse]; exact hz, acc.toList, c', RT.vals_rev rv hi, ?_⟩), rfl, q _ (I2.hok.fresh (Nat.le_refl _))⟩
  rw [Array.toArray_toList]
  exact hS'
section
variable {X : Cx} {W : WX} {a : Expr} {f : EM} {pos : Pos}
theorem d_listRev {p p2 pos2 : Pos} (hc : X.calm = true) (hm : X.mg "list" = none) (hm2 : X.mg "reversed" = none) (ha : DE X W a f) (hg : Gl X "list" := by rfl) (hg2 : Gl X "reversed" := by rfl) (hs : starEach [a] X.env = (false, eval a X.env) :: starEach [] X.env := by rfl)
    (hs2 : starEach [.Call (.Name "reversed" p2) [a] [] pos2] X.env = (false, eval (.Call (.Name "reversed" p2) [a] [] pos2) X.env) :: starEach [] X.env := by rfl) :
    DE X W (.Call (.Name "list" p) [.Call (.Name "reversed" p2) [a] [] pos2] [] pos) (e1 gRevL f) := weakE (pe_listRev hc hg hm hg2 hm2 ha hs hs2) (can1 n_revL)
end
theorem d_gref {X : Cx} {W : WX} {pos : Pos} {x : Str} {a : Addr} {d : PyData} (hm : X.mg x = some (.ref a)) (w : ∀ F, Fz X.K F (.ref a) d) (hg : Gl X x := by rfl) (hd : (x == ("__debug__" : Str)) = false := by decide) : DE X W (.Name x pos) (eC d) :=
  dglob (v := .ref a) hm rfl w hg hd
/-- x, y = a, b -/
def sPar (i j : Nat) (l : LM) : SM := fun e => (l e).out fun ds e1 => match ds with
  | [x, y] => .nx ((e1.set i (some (.fr x))).set j (some (.fr y)))
  | _ => .no
theorem s_par {X : Cx} {W : WX} {ks : List Nat} (i j : Nat) {x y : Str} {a b : Expr} {l : LM} {px py pt pos : Pos} {kt k2 pt2} (hc : X.calm = true) (hN : X.N.Nodup) (ha : DL X W [a, b] l) (hi : X.N[i]? = some x := by rfl) (hj : X.N[j]? = some y := by rfl) (hij : i ≠ j := by decide)
    (hx : X.env.scope.names.lookup x = some .local := by rfl) (hy : X.env.scope.names.lookup y = some .local := by rfl) (hki : i ∉ ks := by decide) (hkj : j ∉ ks := by decide)
    (hw : swappedStores [.Tuple [.Name x px, .Name y py] kt pt] (.Tuple [a, b] k2 pt2) X.env = pure (some [x, y]) := by rfl)
    (hs : swapsWithSole [.Tuple [.Name x px, .Name y py] kt pt] (.Tuple [a, b] k2 pt2) pos.line X.env = pure false := by rfl) : DS X W ks (.Assign [.Tuple [.Name x px, .Name y py] kt pt] (.Tuple [a, b] k2 pt2) pos) (sPar i j l) := by
  refine weakS (ps_par hc hN hi hj hij hx hy ha hw hs) fun D σ H ⟨G, F, env, hk, j', p⟩ => ?_
  refine ⟨G, F, env, j', (PostS.out p).imp fun ds F1 H1 s1 ⟨e1, j1, p2⟩ vs fv => ?_⟩
  cases fv with
  | nil => exact p2.elim
  | cons f1 t1 => cases t1 with
    | nil => exact p2.elim
    | cons f2 t2 => cases t2 with
      | nil => exact ⟨_, _, rfl, p2 F1 _ H1 (Same.refl F1) ((j1.setF f1 (by rw [hk]; exact hki)).setF f2 (by rw [hk]; exact hkj))⟩
      | cons _ _ => exact p2.elim
def parO (i j : Nat) (ds : List PyData) (e1 : Ev) : Out := match ds with
  | [x, y] => .nx ((e1.set i (some (.fr x))).set j (some (.fr y)))
  | _ => .no
@[simp] theorem sPar_ap {i j : Nat} {l : LM} {e : Ev} : sPar i j l e = (l e).out fun ds e1 => parO i j ds e1 := by
  unfold sPar
  cases l e with
  | ok ds e1 =>
    match ds with
    | [] => rfl
    | [_] => rfl
    | [_, _] => rfl
    | _ :: _ :: _ :: _ => rfl
  | exc c e1 => rfl
  | no => rfl
@[simp] theorem parO_two (i j : Nat) (x y : PyData) (e1 : Ev) : parO i j [x, y] e1 = .nx ((e1.set i (some (.fr x))).set j (some (.fr y))) := rfl
end Ly

set_option Elab.async false
set_option linter.all false
set_option maxRecDepth 100000
set_option maxHeartbeats 4000000
set_option autoImplicit false
namespace Ly
open PySem PySem.Spec L2
/-! readings without premises -/
section
variable {e : Ev} {i : Nat} {f f1 a b : EM} {l : LM}
def oK (x : PyData) (e : Ev) : Res (Option Int) := match x with
  | .int i => .ok (some i) e
  | _ => .no
theorem oS_ap : oS f e = (f e).bind oK := rfl
theorem oK_int (i : Int) : oK (.int i) e = .ok (some i) e := rfl
def strK (x : PyData) (k : Str → Res PyData) : Res PyData := match x with
  | .str z => k z
  | _ => .no
theorem strK_s (x : Str) (k : Str → Res PyData) : strK (.str x) k = k x := rfl
theorem eM1_ap {g : Str → PyData → Option PyData} : eM1 g a b e = (a e).bind fun x e1 => strK x fun z => (b e1).bind fun y e2 => lift (g z y) e2 := rfl
def lstO (o : Option (Option O)) : Option (List O) := match o with
  | some (some (.nd .lst xs)) => some xs
  | _ => none
theorem lstAt_ap : lstAt e i = lstO e[i]? := rfl
theorem lstO_l (xs : List O) : lstO (some (some (.nd .lst xs))) = some xs := rfl
theorem oneD_1 (d : PyData) : oneD [d] = some d := rfl
theorem intD_i (i : Int) : intD (.int i) = some i := rfl
theorem frD_fr (d : PyData) : frD (some (.fr d)) = some d := rfl
theorem sApp_a : sApp i l e = (lstAt e i).elim .no fun _ => (l e).out fun ds e1 => (oneD ds).elim .no fun d => (lstAt e1 i).elim .no fun xs => if xs.length < sz then .nx (e1.set i (some (.nd .lst (xs ++ [.fr d])))) else .no := by
  unfold sApp
  cases lstAt e i with
  | none => rfl
  | some _ =>
    show (l e).out _ = (l e).out _
    refine congrArg _ (funext fun ds => funext fun e1 => ?_)
    cases oneD ds with
    | none => rfl
    | some d =>
      show (match lstAt e1 i with
      | some xs => if xs.length < sz then Out.nx (e1.set i (some (.nd .lst (xs ++ [O.fr d])))) else Out.no
      | none => .no) = _
      cases lstAt e1 i <;> rfl
theorem eIxO_a : eIxO i f e = (lstAt e i).elim .no fun _ => (f e).bind fun k e1 => (intD k).elim .no fun z => (lstAt e1 i).elim .no fun xs => lift (frD (atI xs z)) e1 := by
  unfold eIxO
  cases lstAt e i with
  | none => rfl
  | some _ =>
    show (f e).bind _ = (f e).bind _
    refine congrArg _ (funext fun k => funext fun e1 => ?_)
    cases intD k with
    | none => rfl
    | some d =>
      show (match lstAt e1 i with
      | some xs => lift (frD (atI xs d)) e1
      | none => .no) = _
      cases lstAt e1 i <;> rfl
theorem sSix_a : sSix i f f1 e = (f1 e).out fun d e1 => (lstAt e1 i).elim .no fun _ => (f e1).out fun k e2 => (intD k).elim .no fun z => (lstAt e2 i).elim .no fun xs => (ixN xs.length z).elim .no fun j => .nx (e2.set i (some (.nd .lst (xs.set j (.fr d))))) := by
  unfold sSix
  show (f1 e).out _ = (f1 e).out _
  refine congrArg _ (funext fun d => funext fun e1 => ?_)
  cases lstAt e1 i with
  | none => rfl
  | some _ =>
    show (f e1).out _ = (f e1).out _
    refine congrArg _ (funext fun k => funext fun e2 => ?_)
    cases intD k with
    | none => rfl
    | some z =>
      show (match lstAt e2 i with
      | some xs => (match ixN xs.length z with
        | some j => Out.nx (e2.set i (some (.nd .lst (xs.set j (.fr d)))))
        | none => .no)
      | none => .no) = _
      cases lstAt e2 i with
      | none => rfl
      | some xs =>
        show (match ixN xs.length z with
        | some j => Out.nx (e2.set i (some (.nd .lst (xs.set j (.fr d)))))
        | none => .no) = _
        cases h : ixN xs.length z <;> simp only [Option.elim_some, h] <;> rfl
theorem pkD_a : pkD e i = pkO e[i]?.join := rfl
theorem pkO_l (ds : List PyData) : pkO (some (.nd .lst (ds.map .fr))) = some ds := frsD_map ds
theorem pkO_0 : pkO (some (.nd .lst [])) = some [] := rfl
theorem pkO_f (ds : List PyData) : pkO (some (.fr (.list ds))) = some ds := rfl
theorem e2R_a {g : PyData → PyData → Option PyData} : e2R g a i e = (a e).bind fun x e1 => (pkD e1 i).elim .no fun ds => liftF (g x (.list ds)) e1 := by
  unfold e2R
  refine congrArg _ (funext fun x => funext fun e1 => ?_)
  cases pkD e1 i <;> rfl
theorem eSortR_a : eSortR i e = (pkD e i).elim .no fun ds => lift (gSort1 ds) e := by
  unfold eSortR
  cases pkD e i <;> rfl
theorem eM1R_a {g : Str → PyData → Option PyData} : eM1R g a i e = (a e).bind fun x e1 => strK x fun z => (pkD e1 i).elim .no fun ds => liftF (g z (.list ds)) e1 := by
  unfold eM1R
  refine congrArg _ (funext fun x => funext fun e1 => ?_)
  cases x with
  | str z =>
    show (match pkD e1 i with
    | some ds => liftF (g z (.list ds)) e1
    | none => .no) = _
    cases pkD e1 i <;> rfl
  | _ => rfl
def parK (i j : Nat) (ds : List PyData) (e : Ev) : Out := match ds with
  | [x, y] => .nx ((e.set i (some (.fr x))).set j (some (.fr y)))
  | _ => .no
theorem sPar_a {j : Nat} : sPar i j l e = (l e).out (parK i j) := rfl
theorem parK_2 {j : Nat} (x y : PyData) : parK i j [x, y] e = .nx ((e.set i (some (.fr x))).set j (some (.fr y))) := rfl
theorem sAug_a {g : PyData → PyData → Option PyData} : sAug i g f e = (frD (e[i]?.join)).elim .no fun _ => (f e).out fun y e1 => (frD (e1[i]?.join)).elim .no fun x => (lift (g x y) e1).out fun z e2 => .nx (e2.set i (some (.fr z))) := by
  unfold sAug
  cases frD (e[i]?.join) with
  | none => rfl
  | some _ =>
    show (f e).out _ = (f e).out _
    refine congrArg _ (funext fun y => funext fun e1 => ?_)
    cases frD (e1[i]?.join) <;> rfl
theorem uT_a (n : Nat) (us : UMs) (ds : List PyData) : uT n us (.tuple ds) = if ds.length = n then us ds else none := rfl
theorem usC_a (u : UM) (us : UMs) (d : PyData) (r : List PyData) : usC u us (d :: r) = (u d).bind fun a => (us r).map fun b => a ++ b := by
  cases h1 : u d <;> cases h2 : us r <;> simp only [usC, h1, h2] <;> rfl
theorem app_map {α β : Type} (f : α → β) (xs : List α) (x : α) : xs.map f ++ [f x] = (xs ++ [x]).map f := by
  rw [List.map_append]
  rfl
end
theorem gSort1_s (ys : List Str) : gSort1 (ys.map .str) = some (.list ((srt ltS ys).map .str)) := by
  unfold gSort1
  rw [strsD_map]
theorem gSort_s (ys : List Str) : gSort [.list (ys.map .str)] = some (.list ((srt ltS ys).map .str)) := gSort1_s ys
/-! texts as lists of signs -/
theorem cutS_D (z : Str) (lo hi : Option Int) : cutS z lo hi = ⟨(cutD z.cps.toList lo hi).toArray⟩ := by
  unfold cutS cutD
  rw [len_eq]
theorem gSl_s {x : Str} (hx : x.length ≤ sz) (lo hi : Option Int) : gSl (.str x) lo hi = some (.str ⟨(cutD x.cps.toList lo hi).toArray⟩) := by
  show (if x.length ≤ sz then some (PyData.str (cutS x lo hi)) else none) = _
  rw [if_pos hx, cutS_D]
theorem gSl_to {x : Str} {k : Nat} (hx : x.length ≤ sz) : gSl (.str x) none (some (k : Int)) = some (.str ⟨(x.cps.toList.take k).toArray⟩) := by
  rw [gSl_s hx, cut_to _ (by omega), Int.toNat_natCast]
theorem gSl_from {x : Str} {k : Nat} (hx : x.length ≤ sz) : gSl (.str x) (some (k : Int)) none = some (.str ⟨(x.cps.toList.drop k).toArray⟩) := by
  rw [gSl_s hx, cut_from _ (by omega), Int.toNat_natCast]
theorem str_eq_iff {x y : Str} : x = y ↔ x.cps.toList = y.cps.toList := ⟨fun h => by rw [h], str_ext⟩
@[simp] theorem cps_mk (cs : List Nat) : (⟨cs.toArray⟩ : Str).cps.toList = cs := rfl
theorem asc_mk {cs : List Nat} (h : ∀ c ∈ cs, c < 128) (hl : cs.length ≤ sz) : Asc ⟨cs.toArray⟩ := ⟨h, hl⟩
theorem asc_take {x : Str} (h : Asc x) (k : Nat) : Asc ⟨(x.cps.toList.take k).toArray⟩ := asc_mk (fun c hc => h.1 c (List.mem_of_mem_take hc)) (by
  have := h.2
  rw [len_eq] at this
  rw [List.length_take]
  omega)
theorem asc_drop {x : Str} (h : Asc x) (k : Nat) : Asc ⟨(x.cps.toList.drop k).toArray⟩ := asc_mk (fun c hc => h.1 c (List.mem_of_mem_drop hc)) (by
  have := h.2
  rw [len_eq] at this
  rw [List.length_drop]
  omega)
theorem get_D {x : Str} {k : Nat} (h : k < x.length) : x.cps.toList[k]? = some (x.cps.toList.getD k 0) := by
  have h' : k < x.cps.toList.length := by rw [← len_eq]; exact h
  rw [List.getD_eq_getElem?_getD, List.getElem?_eq_getElem h']
  rfl
/-- data that is like itself -/
theorem gEq_self {n : Nat} {d : PyData} (h : Dpt n d) (hn : n ≤ 64) : gEq d d = some (.bool true) := by
  rw [gEq_of (h.shaped hn) (h.shaped hn), SeqAt.eqv_refl d h.1]
theorem gNe_self {n : Nat} {d : PyData} (h : Dpt n d) (hn : n ≤ 64) : gNe d d = some (.bool false) := by
  rw [gNe_of (h.shaped hn) (h.shaped hn), SeqAt.eqv_refl d h.1]
  rfl
theorem dpt_strs {ys : List Str} (n : Nat) (h : ∀ y ∈ ys, Asc y) : Dpt (n + 1) (.list (ys.map .str)) := dpt_list fun d hd => by
  obtain ⟨y, hy, rfl⟩ := List.mem_map.mp hd
  exact dpt_str n (h y hy)
theorem gSum_i (ns : List Int) : gSum [.list (ns.map .int)] = some (.int ns.sum) := by
  show ((intsD (ns.map .int)).map fun ns => PyData.int ns.sum) = _
  rw [intsD_map]
  rfl
/-! counting -/
theorem nodup_le {α : Type} [DecidableEq α] : ∀ (l m : List α), l.Nodup → (∀ x ∈ l, x ∈ m) → l.length ≤ m.length
  | [], _, _, _ => Nat.zero_le _
  | x :: l, m, hn, h => by
    have hx := h x List.mem_cons_self
    have ih := nodup_le l (m.erase x) (List.nodup_cons.mp hn).2 fun y hy => by
      have ne : y ≠ x := fun e => (List.nodup_cons.mp hn).1 (by rw [← e]; exact hy)
      exact (List.mem_erase_of_ne ne).mpr (h y (List.mem_cons_of_mem _ hy))
    rw [List.length_erase_of_mem hx] at ih
    have : 0 < m.length := List.length_pos_of_mem hx
    rw [List.length_cons]
    omega
theorem flat_le {α β : Type} (f : α → List β) (c : Nat) : ∀ (l : List α), (∀ x ∈ l, (f x).length ≤ c) → (l.flatMap f).length ≤ l.length * c
  | [], _ => by simp
  | x :: l, h => by
    have ih := flat_le f c l fun y hy => h y (List.mem_cons_of_mem _ hy)
    have h1 := h x List.mem_cons_self
    rw [List.flatMap_cons, List.length_append, List.length_cons, Nat.add_mul]
    omega
/-- x, y for x in l: append to what is there, in a loop -/
theorem for_go {α : Type} {u : UM} {g : SM} {gd : α → PyData} (I : Nat → Ev → Prop) {l : List α} {e : Ev} (h : ∀ i d e, l[i]? = some d → I i e → ∃ as, u (gd d) = some as ∧ (g (setEv e as)).go (I (i + 1))) (h0 : I 0 e) :
    ∃ e', forL u g (l.map gd) e = .nx e' ∧ I l.length e' := by
  have := for_nx0 (u := u) (g := g) I (ds := l.map gd) (fun i d e hi hI => by
    rw [List.getElem?_map] at hi
    cases hx : l[i]? with
    | none => rw [hx] at hi; cases hi
    | some x =>
      rw [hx] at hi
      cases hi
      exact h i x e hx hI) h0
  rw [List.length_map] at this
  exact this
/-- a loop that ends early or not: some turn returns, or all go on -/
theorem for_rt {α : Type} {u : UM} {g : SM} {gd : α → PyData} (I : Nat → Ev → Prop) (P : Nat → PyData → Ev → Prop) : ∀ (l : List α) (k : Nat) (e : Ev),
    (∀ i d e, l[i]? = some d → I (k + i) e → ∃ as, u (gd d) = some as ∧ ((g (setEv e as)).go (I (k + i + 1)) ∨ ∃ r e', g (setEv e as) = .rt r e' ∧ P (k + i) r e')) → I k e →
    (∃ e', forL u g (l.map gd) e = .nx e' ∧ I (k + l.length) e') ∨ ∃ i r e', i < l.length ∧ forL u g (l.map gd) e = .rt r e' ∧ P (k + i) r e'
  | [], k, e, _, h0 => .inl ⟨e, rfl, h0⟩
  | d :: ds, k, e, h, h0 => by
    obtain ⟨as, hu, hgo⟩ := h 0 d e rfl h0
    have step := forL_cons (g := g) (e := e) (gd d) (ds.map gd) hu
    rw [List.map_cons, step]
    rcases hgo with hgo | ⟨r, e', hr, hp⟩
    · obtain ⟨e1, hg, h1⟩ := go_of hgo
      have hlp : (g (setEv e as)).lp (forL u g (ds.map gd)) = forL u g (ds.map gd) e1 := by
        rcases hg with hg | hg <;> rw [hg] <;> rfl
      rw [hlp]
      rcases for_rt I P ds (k + 1) e1 (fun i d e hi hI => by
        have hI' : I (k + (i + 1)) e := by rw [show k + (i + 1) = k + 1 + i by omega]; exact hI
        have := h (i + 1) d e hi hI'
        rw [show k + (i + 1) = k + 1 + i by omega] at this
        exact this) h1 with ⟨e', q1, q2⟩ | ⟨i, r, e', hi, q1, q2⟩
      · exact .inl ⟨e', q1, by rw [List.length_cons, show k + (ds.length + 1) = k + 1 + ds.length by omega]; exact q2⟩
      · exact .inr ⟨i + 1, r, e', by rw [List.length_cons]; omega, q1, by rw [show k + (i + 1) = k + 1 + i by omega]; exact q2⟩
    · rw [hr]
      exact .inr ⟨0, r, e', by rw [List.length_cons]; omega, rfl, hp⟩
/-- signs of texts, joined -/
theorem join_mk {cs : List Nat} (h : cs.length ≤ sz) : gJoin ("" : Str) (.list (cs.map ch)) = some (.str ⟨cs.toArray⟩) := join_chs h
theorem eM1_at {g : Str → PyData → Option PyData} {a b : EM} {e e1 e2 : Ev} {z : Str} {d : PyData} (ha : a e = .ok (.str z) e1) (hb : b e1 = .ok d e2) : eM1 g a b e = lift (g z d) e2 := by
  unfold eM1
  rw [ha]
  show (b e1).bind _ = _
  rw [hb]
  rfl
end Ly

set_option Elab.async false
set_option linter.all false
set_option maxRecDepth 100000
set_option maxHeartbeats 4000000
set_option autoImplicit false
namespace Ly
open PySem PySem.Spec L2
/-! ## dicts as data -/
def keyD : PyData → Option Key
  | .int i => some (.inl i)
  | .str x => some (.inr x)
  | _ => none
@[simp] theorem keyD_i (i : Int) : keyD (.int i) = some (.inl i) := rfl
@[simp] theorem keyD_s (x : Str) : keyD (.str x) = some (.inr x) := rfl
theorem keyD_eq {d : PyData} {k : Key} (h : keyD d = some k) : d = kD k := by
  cases d <;> cases h <;> rfl
theorem keyD_kD (k : Key) : keyD (kD k) = some k := by cases k <;> rfl
def keysL : List PyData → Option (List Key)
  | [] => some []
  | d :: r => (keyD d).bind fun k => (keysL r).map fun ks => k :: ks
theorem keysL_eq : ∀ {ds : List PyData} {ks : List Key}, keysL ds = some ks → ds = ks.map kD
  | [], ks, h => by cases h; rfl
  | d :: r, ks, h => by
    unfold keysL at h
    cases h1 : keyD d with
    | none => rw [h1] at h; cases h
    | some k =>
      cases h2 : keysL r with
      | none => rw [h1, h2] at h; cases h
      | some ks' =>
        rw [h1, h2] at h
        cases h
        rw [keyD_eq h1, keysL_eq h2]
        rfl
theorem keysL_kD : ∀ ks : List Key, keysL (ks.map kD) = some ks
  | [] => rfl
  | k :: ks => by
    rw [List.map_cons]
    unfold keysL
    rw [keyD_kD, keysL_kD ks]
    rfl
def keysD : PyData → Option (List Key)
  | .tuple ds => keysL ds
  | _ => none
theorem keysD_eq {d : PyData} {ks : List Key} (h : keysD d = some ks) : d = ktD ks := by
  unfold keysD at h
  split at h
  · rw [keysL_eq h]
    rfl
  · cases h
theorem keysD_kt (ks : List Key) : keysD (ktD ks) = some ks := keysL_kD ks
section
variable {κ : Type} [DecidableEq κ] {β : Type}
def valP (ps : List (κ × β)) (k : κ) : Option β := (ps.find? fun p => decide (p.1 = k)).map (·.2)
def putP (ps : List (κ × β)) (k : κ) (d : β) : List (κ × β) := if ps.any (fun p => decide (p.1 = k)) then ps.map (fun p => if p.1 = k then (p.1, d) else p) else ps ++ [(k, d)]
end
section
variable {κ : Type} [DecidableEq κ] {β : Type}
theorem valP_nil {k : κ} : valP ([] : List (κ × β)) k = none := rfl
theorem valP_pos {p : κ × β} {r : List (κ × β)} {k : κ} (e : p.1 = k) : valP (p :: r) k = some p.2 := by simp [valP, List.find?_cons, e]
theorem valP_neg {p : κ × β} {r : List (κ × β)} {k : κ} (e : ¬ p.1 = k) : valP (p :: r) k = valP r k := by simp [valP, List.find?_cons, e]
end
def undL {κ : Type} (kf : PyData → Option κ) : List (PyData × PyData) → Option (List (κ × PyData))
  | [] => some []
  | (k, d) :: r => (kf k).bind fun k => (undL kf r).map fun r => (k, d) :: r
theorem undL_map {κ : Type} {kf : PyData → Option κ} {kd : κ → PyData} (h : ∀ k, kf (kd k) = some k) : ∀ ps : List (κ × PyData), undL kf (ps.map fun p => (kd p.1, p.2)) = some ps
  | [] => rfl
  | (k, d) :: r => by
    show ((kf (kd k)).bind fun k => (undL kf (r.map fun p => (kd p.1, p.2))).map fun r => (k, d) :: r) = _
    rw [h k, undL_map h r]
    rfl
theorem undL_eq {κ : Type} {kf : PyData → Option κ} {kd : κ → PyData} (h : ∀ {d k}, kf d = some k → d = kd k) : ∀ {ds : List (PyData × PyData)} {ps : List (κ × PyData)}, undL kf ds = some ps → ds = ps.map fun p => (kd p.1, p.2)
  | [], ps, e => by cases e; rfl
  | (k, d) :: r, ps, e => by
    unfold undL at e
    cases h1 : kf k with
    | none => rw [h1] at e; cases e
    | some k' =>
      cases h2 : undL kf r with
      | none => rw [h1, h2] at e; cases e
      | some r' =>
        rw [h1, h2] at e
        cases e
        rw [h h1, undL_eq h h2]
        rfl
def dicK (ps : List (Key × PyData)) : PyData := .dict (ps.map fun p => (kD p.1, p.2))
def dicT (ps : List (List Key × PyData)) : PyData := .dict ((.none, .none) :: ps.map fun p => (ktD p.1, p.2))
def undK : PyData → Option (List (Key × PyData))
  | .dict ds => undL keyD ds
  | _ => none
def undT : PyData → Option (List (List Key × PyData))
  | .dict ((.none, .none) :: ds) => undL keysD ds
  | _ => none
@[simp] theorem undK_dic (ps : List (Key × PyData)) : undK (dicK ps) = some ps := undL_map keyD_kD ps
@[simp] theorem undT_dic (ps : List (List Key × PyData)) : undT (dicT ps) = some ps := undL_map keysD_kt ps
theorem undK_eq {d : PyData} {ps : List (Key × PyData)} (h : undK d = some ps) : d = dicK ps := by
  unfold undK at h
  split at h
  · rw [undL_eq keyD_eq h]
    rfl
  · cases h
theorem undT_eq {d : PyData} {ps : List (List Key × PyData)} (h : undT d = some ps) : d = dicT ps := by
  unfold undT at h
  split at h
  · rw [undL_eq keysD_eq h]
    rfl
  · cases h
theorem undK_dicT (ps : List (List Key × PyData)) : undK (dicT ps) = none := rfl
theorem undT_dicK (ps : List (Key × PyData)) : undT (dicK ps) = none := by
  cases ps with
  | nil => rfl
  | cons p r => obtain ⟨k, d⟩ := p; cases k <;> rfl
/-- what stands at a key: none where the key or the dict is of another kind -/
def lookD (d k : PyData) : Option (Option PyData) := match undK d, keyD k with
  | some ps, some k => some (valP ps k)
  | _, _ => match undT d, keysD k with
    | some ps, some k => some (valP ps k)
    | _, _ => none
theorem lookD_K (ps : List (Key × PyData)) {d : PyData} {k : Key} (h : keyD d = some k) : lookD (dicK ps) d = some (valP ps k) := by
  unfold lookD
  rw [undK_dic, h]
theorem lookD_T (ps : List (List Key × PyData)) {d : PyData} {k : List Key} (h : keysD d = some k) : lookD (dicT ps) d = some (valP ps k) := by
  unfold lookD
  rw [undK_dicT, undT_dic, h]
section
variable {K : PySem.W.Frag} {F H : Hp}
theorem fzK_look : ∀ {kvs : List (Key × V)} {ps : List (Key × PyData)} (k : Key), FzK K F kvs (ps.map fun p => (kD p.1, p.2)) → (valP ps k = none ∧ valV kvs k = none) ∨ ∃ v d, valP ps k = some d ∧ valV kvs k = some v ∧ Fz K F v d
  | [], [], _, _ => .inl ⟨rfl, rfl⟩
  | [], _ :: _, _, h => nomatch h
  | _ :: _, [], _, h => nomatch h
  | (a, v) :: kvs, (b, d) :: ps, k, h => by
    rw [List.map_cons] at h
    generalize hb : (kD (b, d).1, (b, d).2) = z at h
    cases h with
    | cons h t =>
      obtain ⟨h1, h2⟩ := Prod.mk.inj hb
      have e : b = a := by
        have h1 : kD b = kD a := h1
        have := keyD_kD b
        rw [h1, keyD_kD a] at this
        exact (Option.some.inj this).symm
      have h2 : d = _ := h2
      subst e h2
      have ih := fzK_look k t
      by_cases c : b = k
      · rw [valP_pos (p := (b, d)) c, valV_pos (p := (b, v)) c]
        exact .inr ⟨v, d, rfl, rfl, h⟩
      · rw [valP_neg (p := (b, d)) c, valV_neg (p := (b, v)) c]
        exact ih
theorem fzT_look : ∀ {kvs : List (List Key × V)} {ps : List (List Key × PyData)} (k : List Key), FzT K F kvs (ps.map fun p => (ktD p.1, p.2)) → (valP ps k = none ∧ valV kvs k = none) ∨ ∃ v d, valP ps k = some d ∧ valV kvs k = some v ∧ Fz K F v d
  | [], [], _, _ => .inl ⟨rfl, rfl⟩
  | [], _ :: _, _, h => nomatch h
  | _ :: _, [], _, h => nomatch h
  | (a, v) :: kvs, (b, d) :: ps, k, h => by
    rw [List.map_cons] at h
    generalize hb : (ktD (b, d).1, (b, d).2) = z at h
    cases h with
    | cons h t =>
      obtain ⟨h1, h2⟩ := Prod.mk.inj hb
      have e : b = a := by
        have h1 : ktD b = ktD a := h1
        have := keysD_kt b
        rw [h1, keysD_kt a] at this
        exact (Option.some.inj this).symm
      have h2 : d = _ := h2
      subst e h2
      have ih := fzT_look k t
      by_cases c : b = k
      · rw [valP_pos (p := (b, d)) c, valV_pos (p := (b, v)) c]
        exact .inr ⟨v, d, rfl, rfl, h⟩
      · rw [valP_neg (p := (b, d)) c, valV_neg (p := (b, v)) c]
        exact ih
theorem fz_key {v : V} {k : Key} (h : Fz K F v (kD k)) : v = kV k := by
  cases k with
  | inl i => cases h; rfl
  | inr x => cases h; rfl
theorem fz_keys : ∀ {vs : List V} {ks : List Key}, FzL K F vs (ks.map kD) → vs = ks.map kV
  | [], [], _ => rfl
  | [], _ :: _, h => nomatch h
  | _ :: _, [], h => nomatch h
  | v :: vs, k :: ks, .cons h t => by rw [fz_key h, fz_keys t]; rfl
theorem fz_tkey {v : V} {ks : List Key} (s : Same F H) (h : Fz K F v (ktD ks)) : ∃ b, v = .ref b ∧ H b = some (.tup (ks.map kV)) := by
  cases h with
  | tup h1 t => exact ⟨_, rfl, by rw [fz_keys t] at h1; exact s _ _ h1⟩
theorem look_ok {x y : V} {d k : PyData} {o : Option PyData} (s : Same F H) (fx : Fz K F x d) (fy : Fz K F y k) (h : lookD d k = some o) : ∃ a ov, x = .ref a ∧ IsD H a ∧ DGet H a y ov ∧ ((o = none ∧ ov = none) ∨ ∃ v e, o = some e ∧ ov = some v ∧ Fz K F v e) := by
  unfold lookD at h
  split at h
  · rename_i ps k' h1 h2
    cases h
    have e1 := undK_eq h1
    have e2 := keyD_eq h2
    subst e1 e2
    unfold dicK at fx
    generalize hg : (ps.map fun p => (kD p.1, p.2)) = ds at fx
    cases fx with
    | @dK a kvs _ hF t =>
      subst hg
      have hH := s _ _ hF
      refine ⟨a, valV kvs k', rfl, .inl ⟨kvs, .inl hH⟩, ?_, ?_⟩
      · rw [fz_key fy]
        exact DGet.k hH
      · rcases fzK_look k' t with ⟨q1, q2⟩ | ⟨v, e, q1, q2, q3⟩
        · exact .inl ⟨q1, q2⟩
        · exact .inr ⟨v, e, q1, q2, q3⟩
    | dT _ _ =>
      exfalso
      cases ps with
      | nil => cases hg
      | cons p r =>
        obtain ⟨k, _⟩ := p
        cases k <;> cases hg
    | kt _ _ =>
      exfalso
      cases ps with
      | nil => cases hg
      | cons p r =>
        obtain ⟨k, _⟩ := p
        cases k <;> cases hg
  · split at h
    · rename_i ps k' h1 h2
      cases h
      have e1 := undT_eq h1
      have e2 := keysD_eq h2
      subst e1 e2
      unfold dicT at fx
      generalize hg : ((PyData.none, PyData.none) :: ps.map fun p => (ktD p.1, p.2)) = ds at fx
      cases fx with
      | dK hF t =>
        exfalso
        subst hg
        generalize hz : (PyData.none, PyData.none) = z at t
        cases t with
        | @cons k _ _ _ _ _ _ => cases k <;> cases hz
      | kt _ _ =>
        exfalso
        cases hg
      | @dT a kvs _ hF t =>
        have hg := (List.cons.inj hg).2
        subst hg
        have hH := s _ _ hF
        obtain ⟨b, rfl, hb⟩ := fz_tkey s fy
        refine ⟨a, valV kvs k', rfl, .inr ⟨kvs, .inl hH⟩, DGet.t hH hb, ?_⟩
        rcases fzT_look k' t with ⟨q1, q2⟩ | ⟨v, e, q1, q2, q3⟩
        · exact .inl ⟨q1, q2⟩
        · exact .inr ⟨v, e, q1, q2, q3⟩
    · cases h
end
def gDix (d k : PyData) : Option PyData := (lookD d k).join
def gDin (k d : PyData) : Option PyData := (lookD d k).map fun o => .bool o.isSome
def gDnin (k d : PyData) : Option PyData := (lookD d k).map fun o => .bool (!o.isSome)
section
variable {K : PySem.W.Frag}
theorem n_dix : Snd2 K (fun x y H Q => ∃ a v, x = .ref a ∧ DGet H a y (some v) ∧ Q v H) gDix := by
  intro F H x y a b c Q s fx fy hg q
  unfold gDix at hg
  cases h : lookD a b with
  | none => rw [h] at hg; cases hg
  | some o =>
    rw [h] at hg
    have hg : o = some c := hg
    subst hg
    obtain ⟨a, ov, rfl, _, g, ⟨h1, _⟩ | ⟨v, e, h1, h2, h3⟩⟩ := look_ok s fx fy h
    · cases h1
    · cases h1
      subst h2
      exact ⟨a, v, rfl, g, q v F H .refl h3⟩
theorem some_iff {o : Option PyData} {ov : Option V} {F : Hp} (h : (o = none ∧ ov = none) ∨ ∃ v e, o = some e ∧ ov = some v ∧ Fz K F v e) : ov.isSome = o.isSome := by
  rcases h with ⟨rfl, rfl⟩ | ⟨v, e, rfl, rfl, _⟩ <;> rfl
theorem n_din : Snd2 K (fun y x H Q => ∃ a o, x = .ref a ∧ DGet H a y o ∧ Q (.bl o.isSome) H) gDin := by
  intro F H y x a b c Q s fy fx hg q
  unfold gDin at hg
  cases h : lookD b a with
  | none => rw [h] at hg; cases hg
  | some o =>
    rw [h] at hg
    cases hg
    obtain ⟨a, ov, rfl, _, g, h1⟩ := look_ok s fx fy h
    exact ⟨a, ov, rfl, g, by rw [some_iff h1]; exact q _ F H .refl (.bl _)⟩
theorem n_dnin : Snd2 K (fun y x H Q => ∃ a o, x = .ref a ∧ DGet H a y o ∧ Q (.bl (!o.isSome)) H) gDnin := by
  intro F H y x a b c Q s fy fx hg q
  unfold gDnin at hg
  cases h : lookD b a with
  | none => rw [h] at hg; cases hg
  | some o =>
    rw [h] at hg
    cases hg
    obtain ⟨a, ov, rfl, _, g, h1⟩ := look_ok s fx fy h
    exact ⟨a, ov, rfl, g, by rw [some_iff h1]; exact q _ F H .refl (.bl _)⟩
end
section
variable {X : Cx} {W : WX} {o i x : Expr} {f g : EM} {pos : Pos}
theorem d_dix (hu : X.A.units + 65 < cLine) (ho : DE X W o f) (hi : DE X W i g) (hs : NoSl i := by exact fun _ _ => rfl) : DE X W (.Subscript o i pos) (e2 gDix f g) := weakE (pe_dget (by omega) ho hi hs) fun σ H Q h => can2 n_dix σ H Q h
theorem d_din (hu : X.A.units + 65 < cLine) (hi : DE X W i f) (ho : DE X W o g) (hm : behindInMarks .In o = false := by rfl) : DE X W (.Compare i [.In] [o] pos) (e2 gDin f g) := weakE (pe_cmp (pc_din (by omega) hi ho) hm) fun σ H Q h => can2 n_din σ H Q h
theorem d_dnin (hu : X.A.units + 65 < cLine) (hi : DE X W i f) (ho : DE X W o g) (hm : behindInMarks .NotIn o = false := by rfl) : DE X W (.Compare i [.NotIn] [o] pos) (e2 gDnin f g) := weakE (pe_cmp (pc_dnotin (by omega) hi ho) hm) fun σ H Q h => can2 n_dnin σ H Q h
theorem canTB2 {t : TE} {f : EM} (k : ∀ σ H Q, canE X W f σ H Q → t σ H Q) (σ : St) (H : Hp) (Q : Bool → Hp → Prop) (h : canT X W (tB2 f) σ H Q) : tB t σ H Q := canTB k σ H Q h
theorem t_din (hu : X.A.units + 65 < cLine) (hi : DE X W i f) (ho : DE X W o g) (hm : behindInMarks .In o = false := by rfl) : DT X W (.Compare i [.In] [o] pos) (tB2 (e2 gDin f g)) := weakT (pt_cmp (pc_din (by omega) hi ho) hm) (canTB2 fun σ H Q h => can2 n_din σ H Q h)
theorem t_dnin (hu : X.A.units + 65 < cLine) (hi : DE X W i f) (ho : DE X W o g) (hm : behindInMarks .NotIn o = false := by rfl) : DT X W (.Compare i [.NotIn] [o] pos) (tB2 (e2 gDnin f g)) := weakT (pt_cmp (pc_dnotin (by omega) hi ho) hm) (canTB2 fun σ H Q h => can2 n_dnin σ H Q h)
end
/-! d.get(k), d.get(k, x) -/
def isDic : PyData → Bool
  | .dict ((.bool _, _) :: _) => false
  | .dict _ => true
  | _ => false
def eGet1 (f g : EM) : EM := fun e => (f e).bind fun d e1 => if isDic d then (g e1).bind fun k e2 => lift ((lookD d k).map fun o => o.getD .none) e2 else .no
def eGet2 (f g h : EM) : EM := fun e => (f e).bind fun d e1 => if isDic d then (g e1).bind fun k e2 => (h e2).bind fun x e3 => lift ((lookD d k).map fun o => o.getD x) e3 else .no
theorem isD_of {K : PySem.W.Frag} {F H : Hp} {v : V} {d : PyData} (s : Same F H) (h : Fz K F v d) (e : isDic d = true) : ∃ a, v = .ref a ∧ IsD H a := by
  cases h with
  | dK h t => exact ⟨_, rfl, .inl ⟨_, .inl (s _ _ h)⟩⟩
  | dT h t => exact ⟨_, rfl, .inr ⟨_, .inl (s _ _ h)⟩⟩
  | _ => cases e
section
variable {X : Cx} {W : WX} {o e e' : Expr} {f g h : EM} {apos cpos : Pos}
theorem d_get1 (hu : X.A.units + 65 < cLine) (ho : DE X W o f) (he : DE X W e g) (m : M1 X o "get" apos e cpos := by exact ⟨rfl, rfl, rfl, rfl⟩) : DE X W (.Call (.Attribute o "get" apos) [e] [] cpos) (eGet1 f g) := by
  refine weakE (pe_dget1 (by omega) ho he m) fun σ H Q ⟨G, F, env, j, p⟩ => ?_
  refine ⟨G, F, env, j, p.bind.imp fun d F1 H1 s1 ⟨e1, j1, p2⟩ v fv => ?_⟩
  cases hd : isDic d with
  | false => simp only [hd] at p2; exact p2.elim
  | true =>
    simp only [hd] at p2
    obtain ⟨a, rfl, ia⟩ := isD_of j1.sub fv hd
    refine ⟨a, rfl, ia, G, F1, e1, j1, (PostR.bind p2).imp fun k F2 H2 s2 ⟨e2, j2, p3⟩ w fw => ?_⟩
    cases hl : lookD d k with
    | none => rw [hl] at p3; exact p3.elim
    | some o =>
      rw [hl] at p3
      obtain ⟨a', ov, ea, _, gg, hh⟩ := look_ok j2.sub (fv.mono s2) fw hl
      cases ea
      refine ⟨ov, gg, p3 F2 H2 (Same.refl F2) j2 _ ?_⟩
      rcases hh with ⟨rfl, rfl⟩ | ⟨v, e, rfl, rfl, hz⟩
      · exact .non
      · exact hz
theorem d_get2 (hu : X.A.units + 65 < cLine) (ho : DE X W o f) (he : DE X W e g) (he' : DE X W e' h) (m : M2 X o "get" apos e e' cpos := by exact ⟨rfl, rfl, rfl, rfl⟩) : DE X W (.Call (.Attribute o "get" apos) [e, e'] [] cpos) (eGet2 f g h) := by
  refine weakE (pe_dget2 (by omega) ho he he' m) fun σ H Q ⟨G, F, env, j, p⟩ => ?_
  refine ⟨G, F, env, j, p.bind.imp fun d F1 H1 s1 ⟨e1, j1, p2⟩ v fv => ?_⟩
  cases hd : isDic d with
  | false => simp only [hd] at p2; exact p2.elim
  | true =>
    simp only [hd] at p2
    obtain ⟨a, rfl, ia⟩ := isD_of j1.sub fv hd
    refine ⟨a, rfl, ia, G, F1, e1, j1, (PostR.bind p2).imp fun k F2 H2 s2 ⟨e2, j2, p3⟩ w fw => ?_⟩
    refine ⟨G, F2, e2, j2, (PostR.bind p3).imp fun x F3 H3 s3 ⟨e3, j3, p4⟩ u fu => ?_⟩
    cases hl : lookD d k with
    | none => rw [hl] at p4; exact p4.elim
    | some o =>
      rw [hl] at p4
      obtain ⟨a', ov, ea, _, gg, hh⟩ := look_ok j3.sub (fv.mono (s2.trans s3)) (fw.mono s3) hl
      cases ea
      refine ⟨ov, gg, p4 F3 H3 (Same.refl F3) j3 _ ?_⟩
      rcases hh with ⟨rfl, rfl⟩ | ⟨v, e, rfl, rfl, hz⟩
      · exact fu
      · exact hz
end
/-! a display of constants -/
def conV : PyData → Option V
  | .none => some .non
  | .bool b => some (.bl b)
  | .int i => some (.int i)
  | .str x => some (.str x)
  | _ => none
theorem conV_fz {K : PySem.W.Frag} {F : Hp} {d : PyData} {v : V} (h : conV d = some v) : Fz K F v d := by
  cases d <;> cases h
  · exact .non
  · exact .bl _
  · exact .int _
  · exact .str _
def conL (ps : List (Key × PyData)) : Option (List (Key × V)) := match ps with
  | [] => some []
  | (k, d) :: r => (conV d).bind fun v => (conL r).map fun r => (k, v) :: r
structure DPs (X : Cx) (pos : Pos) (keys : List (Option Expr)) (values : List Expr) (kvs : List (Key × V)) : Prop where
  run : PPs X pos keys values (kvs.map fun p => (tC (kV p.1), tC p.2))
theorem dps_n {X : Cx} {pos : Pos} : DPs X pos [] [] [] := ⟨pps_nil⟩
theorem dps_c {X : Cx} {pos : Pos} {k v : Expr} {ks : List (Option Expr)} {vs : List Expr} {key : Key} {u : V} {kvs : List (Key × V)} (hk : PE X k (tC (kV key))) (hv : PE X v (tC u)) (hr : DPs X pos ks vs kvs) : DPs X pos (some k :: ks) (v :: vs) ((key, u) :: kvs) := ⟨pps_cons hk hv hr.run⟩
theorem pairs_con {σ : St} {H : Hp} : ∀ {kvs : List (Key × V)} {Q : List (V × V) → Hp → Prop}, Q (kvs.map fun p => (kV p.1, p.2)) H → tPairs (kvs.map fun p => (tC (kV p.1), tC p.2)) σ H Q
  | [], Q, q => q
  | (k, v) :: r, Q, q => pairs_con (kvs := r) q
theorem fzK_con {K : PySem.W.Frag} {F : Hp} : ∀ {ps : List (Key × PyData)} {kvs : List (Key × V)}, conL ps = some kvs → FzK K F kvs (ps.map fun p => (kD p.1, p.2))
  | [], kvs, h => by cases h; exact .nil
  | (k, d) :: r, kvs, h => by
    unfold conL at h
    cases h1 : conV d with
    | none => rw [h1] at h; cases h
    | some v =>
      cases h2 : conL r with
      | none => rw [h1, h2] at h; cases h
      | some kvs' =>
        rw [h1, h2] at h
        cases h
        exact .cons (conV_fz h1) (fzK_con h2)
theorem merge_nodup : ∀ (kvs acc : List (Key × V)), (acc ++ kvs).map (·.1) |>.Nodup → mergeK acc kvs = acc ++ kvs
  | [], acc, _ => by rw [List.append_nil]; rfl
  | (k, v) :: r, acc, h => by
    have hn : valV acc k = none := by
      unfold valV
      rw [Option.map_eq_none_iff, List.find?_eq_none]
      intro p hp e
      have e : p.1 = k := of_decide_eq_true e
      rw [List.map_append] at h
      exact (List.nodup_append.mp h).2.2 p.1 (List.mem_map_of_mem hp) k (by rw [List.map_cons]; exact List.mem_cons_self) e
    show mergeK (putK acc k v) r = _
    rw [putK_new v hn, merge_nodup r (acc ++ [(k, v)]) (by rw [List.append_assoc]; exact h), List.append_assoc]
    rfl
def eDis (ps : List (Key × PyData)) : EM := fun e => .ok (dicK ps) e
theorem d_dis {X : Cx} {W : WX} {pos : Pos} {keys : List (Option Expr)} {values : List Expr} {kvs : List (Key × V)} (ps : List (Key × PyData)) (h : DPs X pos keys values kvs) (hc : conL ps = some kvs := by rfl) (hn : (kvs.map (·.1)).Nodup := by decide)
    (hall : keys.all (·.isSome) = true := by rfl) (hl : keys.length = values.length := by rfl) (h0 : keys ≠ [] := by exact fun q => nomatch q) (h15 : keys.length ≤ 15 := by decide) (hk : kvs.length = keys.length := by rfl) : DE X W (.Dict keys values pos) (eDis ps) := by
  refine weakE (pe_disp h.run hall hl h0 h15) fun σ H Q ⟨G, F, env, j, p⟩ => ?_
  intro a ha
  refine pairs_con ⟨upd_same, kvs, rfl, by omega, ?_⟩
  have e : mergeK [] kvs = kvs := merge_nodup kvs [] hn
  have e2 : upd (upd H a (.dK [])) a (.dK kvs) = upd H a (.dK kvs) := by
    funext b
    by_cases hb : b = a
    · rw [hb, upd_same, upd_same]
    · rw [upd_ne hb, upd_ne hb, upd_ne hb]
  rw [e, e2]
  exact p _ _ (same_new (j.free ha)) (j.newF ha _) _ (.dK upd_same (fzK_con hc))
/-! int(text), text.split(sep) -/
def gIntS : List PyData → Option PyData
  | [.str x] => if x.length ≤ 640 then (PySem.intText? x).map .int else none
  | _ => none
theorem n_intS {K : PySem.W.Frag} : SndL K (fun xs H Q => ∃ a n, xs = [.str a] ∧ PySem.intText? a = some n ∧ a.length ≤ 640 ∧ Q (.int n) H) gIntS := by
  intro F H xs as c Q s f hg q
  cases f with
  | nil => cases hg
  | @cons v vs d ds h t =>
    cases t with
    | cons _ _ => cases d <;> cases hg
    | nil =>
      cases h with
      | str x =>
        have hg : (if x.length ≤ 640 then (PySem.intText? x).map .int else none) = some c := hg
        by_cases hx : x.length ≤ 640
        · rw [if_pos hx] at hg
          cases hi : PySem.intText? x with
          | none => rw [hi] at hg; cases hg
          | some n =>
            rw [hi] at hg
            cases hg
            exact ⟨x, n, rfl, hi, hx, q _ F H .refl (.int _)⟩
        · rw [if_neg hx] at hg; cases hg
      | _ => cases hg
def gSplit (z : Str) (d : PyData) : Option PyData := match d with
  | .str b => if b.length ≠ 0 ∧ z.length + 2 ≤ sz then some (.list ((Txt.split z b).map .str)) else none
  | _ => none
theorem fz_strs2 {K : PySem.W.Frag} {F : Hp} : ∀ (ys : List Str), FzL K F (ys.map V.str) (ys.map PyData.str)
  | [] => .nil
  | y :: ys => .cons (.str y) (fz_strs2 ys)
theorem n_split {K : PySem.W.Frag} : SndS1 K (fun x xs H Q => ∃ a b, x = .str a ∧ xs = [.str b] ∧ (b.length == 0) = false ∧ a.length + 2 ≤ sizeLine ∧ rNewStrs (Txt.split a b) H Q) gSplit := by
  intro F H z y b c Q s fy hg q
  cases fy with
  | str x =>
    have hg : (if x.length ≠ 0 ∧ z.length + 2 ≤ sz then some (PyData.list ((Txt.split z x).map .str)) else none) = some c := hg
    by_cases hx : x.length ≠ 0 ∧ z.length + 2 ≤ sz
    · rw [if_pos hx] at hg
      cases hg
      exact ⟨z, x, rfl, rfl, by simpa using hx.1, by rw [sz_eq]; exact hx.2, fun p hp => q _ _ _ (.one hp) (.lst (.inl (.inl upd_same)) (fz_strs2 _))⟩
    · rw [if_neg hx] at hg; cases hg
  | _ => cases hg
theorem d_split {X : Cx} {W : WX} {o e : Expr} {f g : EM} {pos apos : Pos} (ho : DE X W o f) (he : DE X W e g) (hs : starEach [e] X.env = [(false, eval e X.env)] := by rfl) (hbase : attributeBase o "split" X.env (eval o X.env) = eval o X.env := by rfl) (hline : (apos.endLine == pos.line) = true := by rfl) :
    DE X W (.Call (.Attribute o "split" apos) [e] [] pos) (eM1 gSplit f g) := weakE (pe_split ho he hs hbase hline) (canM1 n_split)
end Ly

set_option Elab.async false
set_option linter.all false
set_option maxRecDepth 100000
set_option maxHeartbeats 4000000
set_option autoImplicit false
namespace Ly
open PySem PySem.Spec L2
/-! ## texts as lists of signs, further -/
abbrev tx (cs : List Nat) : Str := ⟨cs.toArray⟩
abbrev tD (cs : List Nat) : PyData := .str ⟨cs.toArray⟩
theorem tx_len (cs : List Nat) : (tx cs).length = cs.length := rfl
theorem tx_of (x : Str) : tx x.cps.toList = x := str_ext rfl
theorem tx_app (a b : List Nat) : (tx a ++ tx b : Str) = tx (a ++ b) := by
  apply str_ext
  show (a.toArray ++ b.toArray).toList = _
  simp
theorem tx_inj {a b : List Nat} : tx a = tx b ↔ a = b := by
  rw [str_eq_iff]
theorem gAdd_tx {a b : List Nat} (h : a.length + b.length ≤ sz) : gAdd (tD a) (tD b) = some (tD (a ++ b)) := by
  have e := tx_app a b
  have q : gAdd (tD a) (tD b) = some (PyData.str (tx a ++ tx b)) := if_pos h
  rw [q, e]
theorem gLen_tx {a : List Nat} (h : a.length ≤ sz) : gLen [tD a] = some (.int a.length) := gLen_s h
theorem gIx_tx {a : List Nat} {i c : Nat} (ha : a.length ≤ sz) (h : a[i]? = some c) : gIx (tD a) (.int i) = some (ch c) := gIx_s (x := tx a) ha h
theorem gEq_tx {a b : List Nat} (ha : Asc (tx a)) (hb : Asc (tx b)) : gEq (tD a) (tD b) = some (.bool (decide (a = b))) := by
  rw [gEq_s ha hb]
  exact congrArg (fun b => some (PyData.bool b)) (decide_eq_decide.mpr tx_inj)
theorem gNe_tx {a b : List Nat} (ha : Asc (tx a)) (hb : Asc (tx b)) : gNe (tD a) (tD b) = some (.bool (!decide (a = b))) := by
  rw [gNe_s ha hb]
  exact congrArg (fun b => some (PyData.bool (!b))) (decide_eq_decide.mpr tx_inj)
theorem cut_mid {α : Type} (xs : List α) (i j : Nat) : cutD xs (some (i : Int)) (some (j : Int)) = (xs.take j).drop i := by
  unfold cutD
  rw [HT.sIx_nat, HT.sIx_nat, List.drop_take]
  by_cases c : i ≤ xs.length
  · rw [Nat.min_eq_left c]
    by_cases d : j ≤ xs.length
    · rw [Nat.min_eq_left d]
    · rw [Nat.min_eq_right (show xs.length ≤ j by omega), List.take_of_length_le (by rw [List.length_drop]; omega), List.take_of_length_le (by rw [List.length_drop]; omega)]
  · rw [Nat.min_eq_right (show xs.length ≤ i by omega), List.drop_of_length_le (Nat.le_refl _), List.drop_of_length_le (by omega)]
    rw [List.take_nil, List.take_nil]
theorem gSl_mid {a : List Nat} (i j : Nat) (ha : a.length ≤ sz) : gSl (tD a) (some (i : Int)) (some (j : Int)) = some (tD ((a.take j).drop i)) := by
  rw [gSl_s (x := tx a) ha, cut_mid]
theorem gSl_txf {a : List Nat} (i : Nat) (ha : a.length ≤ sz) : gSl (tD a) (some (i : Int)) none = some (tD (a.drop i)) := gSl_from (x := tx a) ha
theorem gSl_txt {a : List Nat} (i : Nat) (ha : a.length ≤ sz) : gSl (tD a) none (some (i : Int)) = some (tD (a.take i)) := gSl_to (x := tx a) ha
theorem sum_flat (ts : List (List Nat)) : ((ts.map tx).map (·.length)).sum = ts.flatten.length := by
  induction ts with
  | nil => rfl
  | cons t ts ih =>
    rw [List.map_cons, List.map_cons, List.sum_cons, ih, List.flatten_cons, List.length_append]
    rfl
theorem join_tx {ts : List (List Nat)} (h : ts.flatten.length ≤ sz) : gJoin ("" : Str) (.list (ts.map tD)) = some (tD ts.flatten) := by
  have e : ts.map tD = (ts.map tx).map PyData.str := by rw [List.map_map]; rfl
  rw [e]
  show ((strsD ((ts.map tx).map PyData.str)).bind fun ys => if (ys.map (·.length)).sum + ys.length * Str.empty.length ≤ sz then some (PyData.str (Txt.join Str.empty ys)) else none) = _
  rw [strsD_map]
  show (if ((ts.map tx).map (·.length)).sum + (ts.map tx).length * 0 ≤ sz then some (PyData.str (Txt.join Str.empty (ts.map tx))) else none) = _
  rw [sum_flat, Nat.mul_zero, Nat.add_zero, if_pos h]
  refine congrArg (fun z => some (PyData.str z)) (str_ext ?_)
  rw [glued_nil, List.map_map]
  show (ts.map fun t => t).flatten = _
  rw [List.map_id']
theorem at_last {α : Type} (xs : List α) (x : α) : atI (xs ++ [x]) (-1) = some x := by
  have hi : ixN (xs ++ [x]).length (-1) = some xs.length := by
    unfold ixN
    rw [List.length_append, List.length_singleton]
    simp
    omega
  unfold atI
  rw [hi]
  show (xs ++ [x])[xs.length]? = _
  rw [List.getElem?_append_right (Nat.le_refl _), Nat.sub_self]
  rfl
theorem ix_last (n : Nat) : ixN (n + 1) (-1) = some n := by
  unfold ixN
  simp
  omega
theorem set_last {α : Type} (xs : List α) (x y : α) : (xs ++ [x]).set xs.length y = xs ++ [y] := by
  rw [List.set_append_right _ _ (Nat.le_refl _), Nat.sub_self]
  rfl
end Ly

set_option Elab.async false
set_option linter.all false
set_option maxRecDepth 100000
set_option maxHeartbeats 4000000
set_option autoImplicit false
namespace Ly
open PySem PySem.Spec L2
/-! ## owned dicts -/
def mkK (ps : List (Key × O)) : O := .nd (.dK (ps.map (·.1))) (ps.map (·.2))
def mkT (ps : List (List Key × O)) : O := .nd (.dT (ps.map (·.1))) (ps.map (·.2))
theorem zip_unzip {α β : Type} : ∀ ps : List (α × β), (ps.map (·.1)).zip (ps.map (·.2)) = ps
  | [] => rfl
  | p :: ps => by
    rw [List.map_cons, List.map_cons, List.zip_cons_cons, zip_unzip ps]
section
variable {κ : Type} [DecidableEq κ]
theorem any_zip {β : Type} (k : κ) : ∀ (ks : List κ) (vs : List β), ks.length = vs.length → (ks.zip vs).any (fun p => decide (p.1 = k)) = ks.any fun x => decide (x = k)
  | [], [], _ => rfl
  | [], _ :: _, h => by cases h
  | _ :: _, [], h => by cases h
  | a :: ks, v :: vs, h => by
    rw [List.zip_cons_cons, List.any_cons, List.any_cons, any_zip k ks vs (by simpa using h)]
theorem put_pair (ks : List κ) (vs : List V) (xs : List O) (k : κ) (w : V) (o : O) (h1 : ks.length = vs.length) (h2 : vs.length = xs.length) :
    (putK (ks.zip vs) k w).map (·.1) = (putP (ks.zip xs) k o).map (·.1) ∧ (putK (ks.zip vs) k w).length = (putP (ks.zip xs) k o).length ∧
      ∀ (j : Nat) (v' : V) (o' : O), ((putK (ks.zip vs) k w).map (·.2))[j]? = some v' → ((putP (ks.zip xs) k o).map (·.2))[j]? = some o' → (vs[j]? = some v' ∧ xs[j]? = some o') ∨ (v' = w ∧ o' = o) := by
  have a1 := any_zip k ks vs h1
  have a2 := any_zip k ks xs (h1.trans h2)
  unfold putK putP
  rw [a1, a2]
  by_cases c : (ks.any fun x => decide (x = k)) = true
  · rw [if_pos c, if_pos c]
    refine ⟨?_, ?_, ?_⟩
    · rw [List.map_map, List.map_map]
      have e1 : ((fun x : κ × V => x.1) ∘ fun kv => if kv.1 = k then (kv.1, w) else kv) = fun x => x.1 := by
        funext x
        show (if x.1 = k then (x.1, w) else x).1 = x.1
        by_cases q : x.1 = k
        · rw [if_pos q]
        · rw [if_neg q]
      have e2 : ((fun x : κ × O => x.1) ∘ fun p => if p.1 = k then (p.1, o) else p) = fun x => x.1 := by
        funext x
        show (if x.1 = k then (x.1, o) else x).1 = x.1
        by_cases q : x.1 = k
        · rw [if_pos q]
        · rw [if_neg q]
      rw [e1, e2, List.map_fst_zip (by omega), List.map_fst_zip (by omega)]
    · rw [List.length_map, List.length_map, List.length_zip, List.length_zip, ← h2]
    · intro j v' o' e1 e2
      rw [List.getElem?_map, List.getElem?_map] at e1 e2
      cases hk : ks[j]? with
      | none =>
        have : (ks.zip vs)[j]? = none := List.getElem?_eq_none (by rw [List.length_zip]; have := List.getElem?_eq_none_iff.mp hk; omega)
        rw [this] at e1
        cases e1
      | some kj =>
        have hj := (List.getElem?_eq_some_iff.mp hk).1
        have hv : vs[j]? = some (vs[j]'(by omega)) := List.getElem?_eq_getElem _
        have hx : xs[j]? = some (xs[j]'(by omega)) := List.getElem?_eq_getElem _
        have z1 : (ks.zip vs)[j]? = some (kj, vs[j]'(by omega)) := by rw [List.getElem?_zip_eq_some]; exact ⟨hk, hv⟩
        have z2 : (ks.zip xs)[j]? = some (kj, xs[j]'(by omega)) := by rw [List.getElem?_zip_eq_some]; exact ⟨hk, hx⟩
        rw [z1] at e1
        rw [z2] at e2
        have e1 : (if kj = k then (kj, w) else (kj, vs[j]'(by omega))).2 = v' := Option.some.inj e1
        have e2 : (if kj = k then (kj, o) else (kj, xs[j]'(by omega))).2 = o' := Option.some.inj e2
        by_cases q : kj = k
        · rw [if_pos q] at e1 e2
          exact .inr ⟨e1.symm, e2.symm⟩
        · rw [if_neg q] at e1 e2
          exact .inl ⟨by rw [hv, ← e1], by rw [hx, ← e2]⟩
  · rw [if_neg c, if_neg c]
    refine ⟨?_, ?_, ?_⟩
    · rw [List.map_append, List.map_append, List.map_fst_zip (by omega), List.map_fst_zip (by omega)]
      rfl
    · rw [List.length_append, List.length_append, List.length_zip, List.length_zip, ← h2]
      rfl
    · intro j v' o' e1 e2
      rw [List.map_append, List.map_snd_zip (by omega)] at e1 e2
      by_cases hj : j < vs.length
      · rw [List.getElem?_append_left hj] at e1
        rw [List.getElem?_append_left (by omega)] at e2
        exact .inl ⟨e1, e2⟩
      · have hj2 : j = vs.length := by
          have := (List.getElem?_eq_some_iff.mp e1).1
          rw [List.length_append] at this
          have : j < vs.length + 1 := this
          omega
        rw [hj2, List.getElem?_append_right (Nat.le_refl _), Nat.sub_self] at e1
        rw [hj2, h2, List.getElem?_append_right (Nat.le_refl _), Nat.sub_self] at e2
        exact .inr ⟨(Option.some.inj e1).symm, (Option.some.inj e2).symm⟩
theorem look_pair {R : V → O → Prop} : ∀ (ks : List κ) (vs : List V) (xs : List O) (k : κ), ks.length = vs.length → vs.length = xs.length → (∀ (j : Nat) (v : V) (o : O), vs[j]? = some v → xs[j]? = some o → R v o) →
    (valP (ks.zip xs) k = none ∧ valV (ks.zip vs) k = none) ∨ ∃ w o, valP (ks.zip xs) k = some o ∧ valV (ks.zip vs) k = some w ∧ R w o
  | [], [], [], _, _, _, _ => .inl ⟨rfl, rfl⟩
  | [], [], _ :: _, _, _, h, _ => by cases h
  | [], _ :: _, _, _, h, _, _ => by cases h
  | _ :: _, [], _, _, h, _, _ => by cases h
  | _ :: _, _ :: _, [], _, _, h, _ => by cases h
  | a :: ks, v :: vs, o :: xs, k, h1, h2, h => by
    rw [List.zip_cons_cons, List.zip_cons_cons]
    by_cases c : a = k
    · rw [valP_pos (p := (a, o)) c, valV_pos (p := (a, v)) c]
      exact .inr ⟨v, o, rfl, rfl, h 0 v o rfl rfl⟩
    · rw [valP_neg (p := (a, o)) c, valV_neg (p := (a, v)) c]
      exact look_pair ks vs xs k (by simpa using h1) (by simpa using h2) fun j v o e1 e2 => h (j + 1) v o (by simpa using e1) (by simpa using e2)
end

section
variable {K : PySem.W.Frag} {mg : MG} {F H : Hp} {S : Addr → Prop}
theorem Rep.dK {v : V} {ks : List Key} {xs : List O} (h : Rep K mg F H S v (.nd (.dK ks) xs)) : ∃ (a : Addr) (vs : List V) (Sf : Nat → Addr → Prop), v = .ref a ∧ H a = some (.dK (ks.zip vs)) ∧ ks.length = vs.length ∧ S a ∧ vs.length = xs.length ∧
    (∀ (j : Nat) (v : V) (o : O), vs[j]? = some v → xs[j]? = some o → Rep K mg F H (Sf j) v o) ∧ (∀ i j b, Sf i b → Sf j b → i = j) ∧ ∀ j b, Sf j b → S b ∧ b ≠ a := by
  cases h with
  | @nd _ N Sf a _ vs _ h1 h2 h3 h4 h5 h6 =>
    exact ⟨a, vs, Sf, rfl, h1.1, h1.2.1, h2 _ ((h1.2.2 a).mpr rfl), h3, h4, h5, fun j b q => ⟨(h6 j b q).1, fun z => (h6 j b q).2 ((h1.2.2 b).mpr z)⟩⟩
theorem Rep.dK_put {a : Addr} {ks : List Key} {xs : List O} {vs : List V} (h : Rep K mg F H S (.ref a) (.nd (.dK ks) xs)) (hv : H a = some (.dK (ks.zip vs))) (hl : ks.length = vs.length) {k : Key} {w : V} {d : PyData} (f : Fz K F w d) :
    S a ∧ Rep K mg F (upd H a (.dK (putK (ks.zip vs) k w))) S (.ref a) (mkK (putP (ks.zip xs) k (.fr d))) := by
  obtain ⟨b, vs', Sf, eb, h1, h2, h3, h4, h5, h6, h7⟩ := h.dK
  cases eb
  have ev : vs' = vs := by
    rw [hv] at h1
    have e : ks.zip vs = ks.zip vs' := HO.dK.inj (Option.some.inj h1)
    have := congrArg (fun l => l.map (·.2)) e
    simp only [List.map_snd_zip (show vs.length ≤ ks.length by omega), List.map_snd_zip (show vs'.length ≤ ks.length by omega)] at this
    exact this.symm
  subst ev
  obtain ⟨q1, q2, q3⟩ := put_pair ks vs' xs k w (.fr d) hl h4
  refine ⟨h3, ?_⟩
  refine .nd (N := fun b => b = a) (Sf := Sf) (vs := (putK (ks.zip vs') k w).map (·.2)) ⟨?_, ?_, fun b => Iff.rfl⟩ (fun b hb => by rw [hb]; exact h3) (by rw [List.length_map, List.length_map, q2]) (fun j v o e1 e2 => ?_) h6 h7
  · rw [upd_same, ← q1, zip_unzip]
  · rw [List.length_map, List.length_map, q2]
  · rcases q3 j v o e1 e2 with ⟨z1, z2⟩ | ⟨rfl, rfl⟩
    · exact (h5 j v o z1 z2).frame (Same.refl F) fun b u z y => by rw [upd_ne (h7 j b z).2]; exact y
    · exact .fr f
theorem Rep.dK_look {v : V} {ks : List Key} {xs : List O} (h : Rep K mg F H S v (.nd (.dK ks) xs)) (k : Key) : ∃ (a : Addr) (vs : List V), v = .ref a ∧ H a = some (.dK (ks.zip vs)) ∧ ks.length = vs.length ∧
    ((valP (ks.zip xs) k = none ∧ valV (ks.zip vs) k = none) ∨ ∃ (w : V) (o : O) (T : Addr → Prop), valP (ks.zip xs) k = some o ∧ valV (ks.zip vs) k = some w ∧ Rep K mg F H T w o) := by
  obtain ⟨a, vs, Sf, rfl, h1, h2, h3, h4, h5, h6, h7⟩ := h.dK
  refine ⟨a, vs, rfl, h1, h2, ?_⟩
  exact look_pair (R := fun w o => ∃ T : Addr → Prop, Rep K mg F H T w o) ks vs xs k h2 h4 (fun j v o e1 e2 => ⟨_, h5 j v o e1 e2⟩) |>.imp id fun ⟨w, o, a, b, T, c⟩ => ⟨w, o, T, a, b, c⟩
end

section
variable {K : PySem.W.Frag} {mg : MG} {F H : Hp} {S : Addr → Prop}
theorem Rep.dT {v : V} {ks : List (List Key)} {xs : List O} (h : Rep K mg F H S v (.nd (.dT ks) xs)) : ∃ (a : Addr) (vs : List V) (Sf : Nat → Addr → Prop), v = .ref a ∧ H a = some (.dT (ks.zip vs)) ∧ ks.length = vs.length ∧ S a ∧ vs.length = xs.length ∧
    (∀ (j : Nat) (v : V) (o : O), vs[j]? = some v → xs[j]? = some o → Rep K mg F H (Sf j) v o) ∧ (∀ i j b, Sf i b → Sf j b → i = j) ∧ ∀ j b, Sf j b → S b ∧ b ≠ a := by
  cases h with
  | @nd _ N Sf a _ vs _ h1 h2 h3 h4 h5 h6 =>
    exact ⟨a, vs, Sf, rfl, h1.1, h1.2.1, h2 _ ((h1.2.2 a).mpr rfl), h3, h4, h5, fun j b q => ⟨(h6 j b q).1, fun z => (h6 j b q).2 ((h1.2.2 b).mpr z)⟩⟩
theorem Rep.dT_put {a : Addr} {ks : List (List Key)} {xs : List O} {vs : List V} (h : Rep K mg F H S (.ref a) (.nd (.dT ks) xs)) (hv : H a = some (.dT (ks.zip vs))) (hl : ks.length = vs.length) {k : (List Key)} {w : V} {d : PyData} (f : Fz K F w d) :
    S a ∧ Rep K mg F (upd H a (.dT (putK (ks.zip vs) k w))) S (.ref a) (mkT (putP (ks.zip xs) k (.fr d))) := by
  obtain ⟨b, vs', Sf, eb, h1, h2, h3, h4, h5, h6, h7⟩ := h.dT
  cases eb
  have ev : vs' = vs := by
    rw [hv] at h1
    have e : ks.zip vs = ks.zip vs' := HO.dT.inj (Option.some.inj h1)
    have := congrArg (fun l => l.map (·.2)) e
    simp only [List.map_snd_zip (show vs.length ≤ ks.length by omega), List.map_snd_zip (show vs'.length ≤ ks.length by omega)] at this
    exact this.symm
  subst ev
  obtain ⟨q1, q2, q3⟩ := put_pair ks vs' xs k w (.fr d) hl h4
  refine ⟨h3, ?_⟩
  refine .nd (N := fun b => b = a) (Sf := Sf) (vs := (putK (ks.zip vs') k w).map (·.2)) ⟨?_, ?_, fun b => Iff.rfl⟩ (fun b hb => by rw [hb]; exact h3) (by rw [List.length_map, List.length_map, q2]) (fun j v o e1 e2 => ?_) h6 h7
  · rw [upd_same, ← q1, zip_unzip]
  · rw [List.length_map, List.length_map, q2]
  · rcases q3 j v o e1 e2 with ⟨z1, z2⟩ | ⟨rfl, rfl⟩
    · exact (h5 j v o z1 z2).frame (Same.refl F) fun b u z y => by rw [upd_ne (h7 j b z).2]; exact y
    · exact .fr f
theorem Rep.dT_look {v : V} {ks : List (List Key)} {xs : List O} (h : Rep K mg F H S v (.nd (.dT ks) xs)) (k : (List Key)) : ∃ (a : Addr) (vs : List V), v = .ref a ∧ H a = some (.dT (ks.zip vs)) ∧ ks.length = vs.length ∧
    ((valP (ks.zip xs) k = none ∧ valV (ks.zip vs) k = none) ∨ ∃ (w : V) (o : O) (T : Addr → Prop), valP (ks.zip xs) k = some o ∧ valV (ks.zip vs) k = some w ∧ Rep K mg F H T w o) := by
  obtain ⟨a, vs, Sf, rfl, h1, h2, h3, h4, h5, h6, h7⟩ := h.dT
  refine ⟨a, vs, rfl, h1, h2, ?_⟩
  exact look_pair (R := fun w o => ∃ T : Addr → Prop, Rep K mg F H T w o) ks vs xs k h2 h4 (fun j v o e1 e2 => ⟨_, h5 j v o e1 e2⟩) |>.imp id fun ⟨w, o, a, b, T, c⟩ => ⟨w, o, T, a, b, c⟩
end

/-! reading and writing -/
def dgetO : O → PyData → Option (Option O)
  | .nd (.dK ks) xs, k => (keyD k).map fun k => valP (ks.zip xs) k
  | .nd (.dT ks) xs, k => (keysD k).map fun k => valP (ks.zip xs) k
  | _, _ => none
def dputO : O → PyData → PyData → Option O
  | .nd (.dK ks) xs, k, d => (keyD k).bind fun k => if ks.length < sz then some (mkK (putP (ks.zip xs) k (.fr d))) else none
  | .nd (.dT ks) xs, k, d => (keysD k).bind fun k => if ks.length < sz then some (mkT (putP (ks.zip xs) k (.fr d))) else none
  | _, _, _ => none
theorem dget_K (ps : List (Key × O)) {d : PyData} {k : Key} (h : keyD d = some k) : dgetO (mkK ps) d = some (valP ps k) := by
  show (keyD d).map (fun k => valP ((ps.map (·.1)).zip (ps.map (·.2))) k) = _
  rw [h, zip_unzip]
  rfl
theorem dget_T (ps : List (List Key × O)) {d : PyData} {k : List Key} (h : keysD d = some k) : dgetO (mkT ps) d = some (valP ps k) := by
  show (keysD d).map (fun k => valP ((ps.map (·.1)).zip (ps.map (·.2))) k) = _
  rw [h, zip_unzip]
  rfl
theorem dput_K (ps : List (Key × O)) {d : PyData} {k : Key} (h : keyD d = some k) (x : PyData) (hl : ps.length < sz) : dputO (mkK ps) d x = some (mkK (putP ps k (.fr x))) := by
  show ((keyD d).bind fun k => if (ps.map (·.1)).length < sz then some (mkK (putP ((ps.map (·.1)).zip (ps.map (·.2))) k (.fr x))) else none) = _
  rw [h, zip_unzip, List.length_map]
  exact if_pos hl
theorem dput_T (ps : List (List Key × O)) {d : PyData} {k : List Key} (h : keysD d = some k) (x : PyData) (hl : ps.length < sz) : dputO (mkT ps) d x = some (mkT (putP ps k (.fr x))) := by
  show ((keysD d).bind fun k => if (ps.map (·.1)).length < sz then some (mkT (putP ((ps.map (·.1)).zip (ps.map (·.2))) k (.fr x))) else none) = _
  rw [h, zip_unzip, List.length_map]
  exact if_pos hl
def frP {κ : Type} (ps : List (κ × PyData)) : List (κ × O) := ps.map fun p => (p.1, .fr p.2)
theorem valP_fr {κ : Type} [DecidableEq κ] (k : κ) : ∀ ps : List (κ × PyData), valP (frP ps) k = (valP ps k).map .fr
  | [] => rfl
  | p :: ps => by
    by_cases c : p.1 = k
    · rw [valP_pos c]
      exact valP_pos (p := (p.1, O.fr p.2)) c
    · rw [valP_neg c, ← valP_fr k ps]
      exact valP_neg (p := (p.1, O.fr p.2)) c
theorem putP_fr {κ : Type} [DecidableEq κ] (k : κ) (d : PyData) (ps : List (κ × PyData)) : putP (frP ps) k (.fr d) = frP (putP ps k d) := by
  unfold putP frP
  rw [List.any_map]
  have e : ((fun p : κ × O => decide (p.1 = k)) ∘ fun p : κ × PyData => (p.1, O.fr p.2)) = fun p => decide (p.1 = k) := rfl
  rw [e]
  by_cases c : (ps.any fun p => decide (p.1 = k)) = true
  · rw [if_pos c, if_pos c, List.map_map, List.map_map]
    refine List.map_congr_left fun p _ => ?_
    show (if p.1 = k then (p.1, O.fr d) else (p.1, O.fr p.2)) = ((if p.1 = k then (p.1, d) else p).1, O.fr (if p.1 = k then (p.1, d) else p).2)
    by_cases q : p.1 = k
    · rw [if_pos q, if_pos q]
    · rw [if_neg q, if_neg q]
  · rw [if_neg c, if_neg c, List.map_append]
    rfl
theorem fzL_snd {κ : Type} (ps : List (κ × PyData)) : fzL ((frP ps).map (·.2)) = some (ps.map (·.2)) := by
  have e : (frP ps).map (·.2) = (ps.map (·.2)).map O.fr := by
    unfold frP
    rw [List.map_map, List.map_map]
    rfl
  rw [e, fzL_frs]
theorem zipK_eq : ∀ ps : List (Key × PyData), zipK (ps.map (·.1)) (ps.map (·.2)) = ps.map fun p => (kD p.1, p.2)
  | [] => rfl
  | p :: ps => by
    rw [List.map_cons, List.map_cons, List.map_cons]
    show (kD p.1, p.2) :: zipK _ _ = _
    rw [zipK_eq ps]
theorem zipT_eq : ∀ ps : List (List Key × PyData), zipT (ps.map (·.1)) (ps.map (·.2)) = ps.map fun p => (ktD p.1, p.2)
  | [] => rfl
  | p :: ps => by
    rw [List.map_cons, List.map_cons, List.map_cons]
    show (ktD p.1, p.2) :: zipT _ _ = _
    rw [zipT_eq ps]
theorem frP_fst {κ : Type} (ps : List (κ × PyData)) : (frP ps).map (·.1) = ps.map (·.1) := by
  unfold frP
  rw [List.map_map]
  rfl
theorem fz_mkK (ps : List (Key × PyData)) : O.fz (mkK (frP ps)) = some (dicK ps) := by
  unfold mkK
  rw [O.fz, fzL_snd, frP_fst]
  show some (PyData.dict (zipK _ _)) = _
  rw [zipK_eq]
  rfl
theorem fz_mkT (ps : List (List Key × PyData)) : O.fz (mkT (frP ps)) = some (dicT ps) := by
  unfold mkT
  rw [O.fz, fzL_snd, frP_fst]
  show some (PyData.dict (_ :: zipT _ _)) = _
  rw [zipT_eq]
  rfl
section
variable {K : PySem.W.Frag} {mg : MG} {F H : Hp} {S : Addr → Prop}
/-- what stands at a key of an owned dict -/
theorem Rep.look {v y : V} {o : O} {k : PyData} {r : Option O} (s : Same F H) (h : Rep K mg F H S v o) (fy : Fz K F y k) (e : dgetO o k = some r) : ∃ (a : Addr) (ov : Option V), v = .ref a ∧ IsD H a ∧ DGet H a y ov ∧ ((r = none ∧ ov = none) ∨ ∃ (w : V) (o' : O) (T : Addr → Prop), r = some o' ∧ ov = some w ∧ Rep K mg F H T w o') := by
  unfold dgetO at e
  split at e
  · rename_i ks xs
    cases hk : keyD k with
    | none => rw [hk] at e; cases e
    | some k' =>
      rw [hk] at e
      cases e
      rw [keyD_eq hk] at fy
      obtain ⟨a, vs, rfl, h1, h2, h3⟩ := h.dK_look k'
      refine ⟨a, _, rfl, .inl ⟨_, .inl h1⟩, ?_, h3.imp id fun ⟨w, o, T, a, b, c⟩ => ⟨w, o, T, a, b, c⟩⟩
      rw [fz_key fy]
      exact DGet.k h1
  · rename_i ks xs
    cases hk : keysD k with
    | none => rw [hk] at e; cases e
    | some k' =>
      rw [hk] at e
      cases e
      rw [keysD_eq hk] at fy
      obtain ⟨a, vs, rfl, h1, h2, h3⟩ := h.dT_look k'
      obtain ⟨b, rfl, hb⟩ := fz_tkey s fy
      exact ⟨a, _, rfl, .inr ⟨_, .inl h1⟩, DGet.t h1 hb, h3.imp id fun ⟨w, o, T, a, b, c⟩ => ⟨w, o, T, a, b, c⟩⟩
  · cases e
end
section
variable {K : PySem.W.Frag} {mg : MG} {G : Gd} {F H : Hp} {env : Ev} {σ : St}
/-- d[k] = x in the state -/
theorem J.dput (j : J K mg G F env σ H) {i : Nat} {o o' : O} {v y w : V} {k d : PyData} (e : env[i]? = some (some o)) (hv : σ[i]? = some (some v)) (fy : Fz K F y k) (fw : Fz K F w d) (hp : dputO o k d = some o') :
    ∃ (a : Addr) (H' : Hp), v = .ref a ∧ DPut H a y w H' ∧ J K mg G F (env.set i (some o')) σ H' := by
  obtain ⟨S, v', h1, h2, _⟩ := j.row e
  rw [hv] at h1
  cases h1
  unfold dputO at hp
  split at hp
  · rename_i ks xs
    cases hk : keyD k with
    | none => rw [hk] at hp; cases hp
    | some k' =>
      rw [hk] at hp
      have hp : (if ks.length < sz then some (mkK (putP (ks.zip xs) k' (.fr d))) else none) = some o' := hp
      by_cases hl : ks.length < sz
      · rw [if_pos hl] at hp
        cases hp
        rw [keyD_eq hk] at fy
        obtain ⟨a, vs, Sf, rfl, q1, q2, _⟩ := h2.dK
        refine ⟨a, _, rfl, ?_, j.put (a := a) (ho := .dK (putK (ks.zip vs) k' w)) e hv fun S3 q6 => q6.dK_put q1 q2 fw⟩
        rw [fz_key fy]
        exact DPut.k q1 (by rw [List.length_zip, sz_eq]; omega)
      · rw [if_neg hl] at hp; cases hp
  · rename_i ks xs
    cases hk : keysD k with
    | none => rw [hk] at hp; cases hp
    | some k' =>
      rw [hk] at hp
      have hp : (if ks.length < sz then some (mkT (putP (ks.zip xs) k' (.fr d))) else none) = some o' := hp
      by_cases hl : ks.length < sz
      · rw [if_pos hl] at hp
        cases hp
        rw [keysD_eq hk] at fy
        obtain ⟨a, vs, Sf, rfl, q1, q2, _⟩ := h2.dT
        obtain ⟨b, rfl, hb⟩ := fz_tkey j.sub fy
        exact ⟨a, _, rfl, DPut.t q1 hb (by rw [List.length_zip, sz_eq]; omega), j.put (a := a) (ho := .dT (putK (ks.zip vs) k' w)) e hv fun S3 q6 => q6.dT_put q1 q2 fw⟩
      · rw [if_neg hl] at hp; cases hp
  · cases hp
end
def frO1 : Option O → Option PyData
  | some (.fr d) => some d
  | _ => none
theorem frO1_some {o : Option O} {d : PyData} (h : frO1 o = some d) : o = some (.fr d) := by
  unfold frO1 at h
  split at h
  · cases h; rfl
  · cases h
/-- d[k], the item data -/
def eDgo (i : Nat) (fk : EM) : EM := fun e => e[i]?.join.elim .no fun _ => (fk e).bind fun k e1 => e1[i]?.join.elim .no fun o => lift ((dgetO o k).bind frO1) e1
/-- k in d, k not in d -/
def eDino (neg : Bool) (fk : EM) (i : Nat) : EM := fun e => (fk e).bind fun k e1 => e1[i]?.join.elim .no fun o => lift ((dgetO o k).map fun r => .bool (if neg then !r.isSome else r.isSome)) e1
/-- d[k] = x -/
def sDput (i : Nat) (fk fv : EM) : SM := fun e => (fv e).out fun d e1 => e1[i]?.join.elim .no fun _ => (fk e1).out fun k e2 => e2[i]?.join.elim .no fun o => (dputO o k d).elim .no fun o' => .nx (e2.set i (some o'))
/-- d[k] op= x -/
def sDaug (i : Nat) (g : PyData → PyData → Option PyData) (fk fv : EM) : SM := fun e => e[i]?.join.elim .no fun _ => (fk e).out fun k e1 => e1[i]?.join.elim .no fun o => ((dgetO o k).bind frO1).elim .no fun x => (fv e1).out fun y e2 =>
  (lift (g x y) e2).out fun z e3 => e3[i]?.join.elim .no fun o2 => (dputO o2 k z).elim .no fun o' => .nx (e3.set i (some o'))
def sDnew (i : Nat) (t : Bool) : SM := fun e => .nx (e.set i (some (if t then mkT [] else mkK [])))
theorem jn {α : Type} {o : Option (Option α)} {x : α} (h : o.join = some x) : o = some (some x) := by
  cases o with
  | none => cases h
  | some o => rw [show o = some x from h]
section
variable {X : Cx} {W : WX} {ks : List Nat} {ix e : Expr} {fi fv : EM} {np pos tpos : Pos}
theorem d_dgo (i : Nat) {x : Str} (hu : X.A.units + 65 < cLine) (hx : DE X W ix fi) (hN : X.N[i]? = some x := by rfl) (hv : Vis X.env.scope x := by first | exact Or.inl rfl | exact Or.inr (Or.inl rfl) | exact Or.inr (Or.inr rfl)) (hd : (x == ("__debug__" : Str)) = false := by decide) (hcd : (x == ("__classdict__" : Str)) = false := by decide)
    (hs : NoSl ix := by exact fun _ _ => rfl) : DE X W (.Subscript (.Name x np) ix pos) (eDgo i fi) := by
  refine weakE (pe_dget (by omega) (pe_var hN hv hd hcd) hx hs) fun σ H Q ⟨G, F, env, j, p⟩ => ?_
  unfold eDgo at p
  cases he : env[i]?.join with
  | none => rw [he] at p; exact p.elim
  | some o0 =>
    rw [he] at p
    have p : PostR X W G F σ (fun d F' H' => ∀ v, Fz X.K F' v d → Q v H') ((fi env).bind fun k e1 => e1[i]?.join.elim .no fun o => lift ((dgetO o k).bind frO1) e1) := p
    obtain ⟨S, v, h1, h2, _⟩ := j.row (jn he)
    refine ⟨v, h1, G, F, env, j, p.bind.imp fun k F1 H1 s1 ⟨e1, j1, p2⟩ y fy => ?_⟩
    cases he1 : e1[i]?.join with
    | none => rw [he1] at p2; exact p2.elim
    | some o =>
      rw [he1] at p2
      have p2 : PostR X W G F1 σ (fun d F' H' => ∀ v, Fz X.K F' v d → Q v H') (lift ((dgetO o k).bind frO1) e1) := p2
      cases hg : dgetO o k with
      | none => rw [hg] at p2; exact p2.elim
      | some r =>
        cases hr : frO1 r with
        | none => rw [hg] at p2; simp only [Option.bind_some, hr] at p2; exact p2.elim
        | some d =>
          rw [hg] at p2
          simp only [Option.bind_some, hr] at p2
          obtain ⟨S2, v2, q1, q2, _⟩ := j1.row (jn he1)
          rw [h1] at q1
          cases q1
          obtain ⟨a, ov, rfl, _, gg, hh⟩ := q2.look j1.sub fy hg
          rw [frO1_some hr] at hh
          rcases hh with ⟨hh, _⟩ | ⟨w, o', T, hh, rfl, rr⟩
          · cases hh
          · cases hh
            cases rr with
            | fr f => exact ⟨a, w, rfl, gg, p2 F1 H1 (Same.refl F1) j1 w f⟩
theorem canDino {neg : Bool} {i : Nat} (σ : St) (H : Hp) (Q : VK) (h : canE X W (eDino neg fi i) σ H Q) : tOp (fun y x H Q => ∃ a o, x = .ref a ∧ DGet H a y o ∧ Q (.bl (if neg then !o.isSome else o.isSome)) H) (canE X W fi) (tVar i) σ H Q := by
  obtain ⟨G, F, env, j, p⟩ := h
  refine ⟨G, F, env, j, p.bind.imp fun k F1 H1 s1 ⟨e1, j1, p2⟩ y fy => ?_⟩
  cases he1 : e1[i]?.join with
  | none => rw [he1] at p2; exact p2.elim
  | some o =>
    rw [he1] at p2
    have p2 : PostR X W G F1 σ (fun d F' H' => ∀ v, Fz X.K F' v d → Q v H') (lift ((dgetO o k).map fun r => .bool (if neg then !r.isSome else r.isSome)) e1) := p2
    cases hg : dgetO o k with
    | none => rw [hg] at p2; exact p2.elim
    | some r =>
      rw [hg] at p2
      obtain ⟨S2, v2, q1, q2, _⟩ := j1.row (jn he1)
      obtain ⟨a, ov, rfl, _, gg, hh⟩ := q2.look j1.sub fy hg
      refine ⟨_, q1, a, ov, rfl, gg, ?_⟩
      have e : ov.isSome = r.isSome := by
        rcases hh with ⟨rfl, rfl⟩ | ⟨w, o', T, rfl, rfl, _⟩ <;> rfl
      rw [e]
      exact p2 F1 H1 (Same.refl F1) j1 _ (.bl _)
theorem d_dino (i : Nat) {x : Str} (hu : X.A.units + 65 < cLine) (hx : DE X W ix fi) (hm : behindInMarks .In (.Name x np) = false := by rfl) (hN : X.N[i]? = some x := by rfl) (hv : Vis X.env.scope x := by first | exact Or.inl rfl | exact Or.inr (Or.inl rfl) | exact Or.inr (Or.inr rfl)) (hd : (x == ("__debug__" : Str)) = false := by decide) (hcd : (x == ("__classdict__" : Str)) = false := by decide) :
    DE X W (.Compare ix [.In] [.Name x np] pos) (eDino false fi i) := weakE (pe_cmp (pc_din (by omega) hx (pe_var hN hv hd hcd)) hm) canDino
theorem d_dnino (i : Nat) {x : Str} (hu : X.A.units + 65 < cLine) (hx : DE X W ix fi) (hm : behindInMarks .NotIn (.Name x np) = false := by rfl) (hN : X.N[i]? = some x := by rfl) (hv : Vis X.env.scope x := by first | exact Or.inl rfl | exact Or.inr (Or.inl rfl) | exact Or.inr (Or.inr rfl)) (hd : (x == ("__debug__" : Str)) = false := by decide) (hcd : (x == ("__classdict__" : Str)) = false := by decide) :
    DE X W (.Compare ix [.NotIn] [.Name x np] pos) (eDino true fi i) := weakE (pe_cmp (pc_dnotin (by omega) hx (pe_var hN hv hd hcd)) hm) canDino
theorem t_dino (i : Nat) {x : Str} (hu : X.A.units + 65 < cLine) (hx : DE X W ix fi) (hm : behindInMarks .In (.Name x np) = false := by rfl) (hN : X.N[i]? = some x := by rfl) (hv : Vis X.env.scope x := by first | exact Or.inl rfl | exact Or.inr (Or.inl rfl) | exact Or.inr (Or.inr rfl)) (hd : (x == ("__debug__" : Str)) = false := by decide) (hcd : (x == ("__classdict__" : Str)) = false := by decide) :
    DT X W (.Compare ix [.In] [.Name x np] pos) (tB2 (eDino false fi i)) := weakT (pt_cmp (pc_din (by omega) hx (pe_var hN hv hd hcd)) hm) (canTB canDino)
theorem t_dnino (i : Nat) {x : Str} (hu : X.A.units + 65 < cLine) (hx : DE X W ix fi) (hm : behindInMarks .NotIn (.Name x np) = false := by rfl) (hN : X.N[i]? = some x := by rfl) (hv : Vis X.env.scope x := by first | exact Or.inl rfl | exact Or.inr (Or.inl rfl) | exact Or.inr (Or.inr rfl)) (hd : (x == ("__debug__" : Str)) = false := by decide) (hcd : (x == ("__classdict__" : Str)) = false := by decide) :
    DT X W (.Compare ix [.NotIn] [.Name x np] pos) (tB2 (eDino true fi i)) := weakT (pt_cmp (pc_dnotin (by omega) hx (pe_var hN hv hd hcd)) hm) (canTB canDino)
theorem s_dput (i : Nat) {x : Str} (hu : X.A.units + 65 < cLine) (ha : DE X W e fv) (hx : DE X W ix fi) (hN : X.N[i]? = some x := by rfl) (hv : Vis X.env.scope x := by first | exact Or.inl rfl | exact Or.inr (Or.inl rfl) | exact Or.inr (Or.inr rfl)) (hd : (x == ("__debug__" : Str)) = false := by decide) (hcd : (x == ("__classdict__" : Str)) = false := by decide)
    (hs : swapsWith e (some (.Subscript (.Name x np) ix tpos)) pos.line X.env = pure false := by rfl) : DS X W ks (.Assign [.Subscript (.Name x np) ix tpos] e pos) (sDput i fi fv) := by
  refine weakS (ps_dput (by omega) (pe_var hN hv hd hcd) hx ha hs) fun D σ H ⟨G, F, env, hk, j, p⟩ => ?_
  refine ⟨G, F, env, j, (PostS.out p).imp fun d F1 H1 s1 ⟨e1, j1, p2⟩ y fy => ?_⟩
  cases he : e1[i]?.join with
  | none => rw [he] at p2; exact p2.elim
  | some o0 =>
    rw [he] at p2
    have p2 : PostS X W G F1 D ((fi e1).out fun k e2 => e2[i]?.join.elim .no fun o => (dputO o k d).elim .no fun o' => .nx (e2.set i (some o'))) := p2
    obtain ⟨S, v, h1, h2, _⟩ := j1.row (jn he)
    refine ⟨v, h1, G, F1, e1, j1, (PostS.out p2).imp fun k F2 H2 s2 ⟨e2, j2, p3⟩ z fz => ?_⟩
    cases he2 : e2[i]?.join with
    | none => rw [he2] at p3; exact p3.elim
    | some o =>
      rw [he2] at p3
      have p3 : PostS X W G F2 D ((dputO o k d).elim .no fun o' => .nx (e2.set i (some o'))) := p3
      cases hp : dputO o k d with
      | none => rw [hp] at p3; exact p3.elim
      | some o' =>
        rw [hp] at p3
        obtain ⟨a, H', rfl, gp, j3⟩ := j2.dput (jn he2) h1 fz (fy.mono s2) hp
        exact ⟨a, H', rfl, gp, p3 F2 σ H' (Same.refl F2) j3⟩
theorem s_daug (i : Nat) {x : Str} {op : Operator} {r : R2} {g : PyData → PyData → Option PyData} (hu : X.A.units + 65 < cLine) (ho : OpR X (inplaceOp op) r) (hs2 : Snd2 X.K r g) (ha : DE X W e fv) (hx : DE X W ix fi) (hN : X.N[i]? = some x := by rfl) (hv : Vis X.env.scope x := by first | exact Or.inl rfl | exact Or.inr (Or.inl rfl) | exact Or.inr (Or.inr rfl)) (hd : (x == ("__debug__" : Str)) = false := by decide) (hcd : (x == ("__classdict__" : Str)) = false := by decide)
    (hst : ∀ ov iv new, augStore ix ov iv new = (do holding [new, ov, iv] (setItem ov iv new); release [new, ov, iv] []; pure .next) := by intro _ _ _; rfl) : DS X W ks (.AugAssign (.Subscript (.Name x np) ix tpos) op e pos) (sDaug i g fi fv) := by
  refine weakS (ps_daug (by omega) (pe_var hN hv hd hcd) hx ha (show InOp X op r from ho) hst) fun D σ H ⟨G, F, env, hk, j, p⟩ => ?_
  unfold sDaug at p
  cases he : env[i]?.join with
  | none => rw [he] at p; exact p.elim
  | some o0 =>
    rw [he] at p
    have p : PostS X W G F D ((fi env).out fun k e1 => e1[i]?.join.elim .no fun o => ((dgetO o k).bind frO1).elim .no fun x => (fv e1).out fun y e2 => (lift (g x y) e2).out fun z e3 => e3[i]?.join.elim .no fun o2 => (dputO o2 k z).elim .no fun o' => .nx (e3.set i (some o'))) := p
    obtain ⟨S, v, h1, h2, _⟩ := j.row (jn he)
    refine ⟨v, h1, G, F, env, j, (PostS.out p).imp fun k F1 H1 s1 ⟨e1, j1, p2⟩ y fy => ?_⟩
    cases he1 : e1[i]?.join with
    | none => rw [he1] at p2; exact p2.elim
    | some o =>
      rw [he1] at p2
      have p2 : PostS X W G F1 D (((dgetO o k).bind frO1).elim .no fun x => (fv e1).out fun y e2 => (lift (g x y) e2).out fun z e3 => e3[i]?.join.elim .no fun o2 => (dputO o2 k z).elim .no fun o' => .nx (e3.set i (some o'))) := p2
      cases hg : dgetO o k with
      | none => rw [hg] at p2; exact p2.elim
      | some rr =>
        cases hr : frO1 rr with
        | none => rw [hg] at p2; simp only [Option.bind_some, hr] at p2; exact p2.elim
        | some d =>
          rw [hg] at p2
          simp only [Option.bind_some, hr] at p2
          have p2 : PostS X W G F1 D ((fv e1).out fun y e2 => (lift (g d y) e2).out fun z e3 => e3[i]?.join.elim .no fun o2 => (dputO o2 k z).elim .no fun o' => .nx (e3.set i (some o'))) := p2
          obtain ⟨S2, v2, q1, q2, _⟩ := j1.row (jn he1)
          rw [h1] at q1
          cases q1
          obtain ⟨a, ov, rfl, _, gg, hh⟩ := q2.look j1.sub fy hg
          rw [frO1_some hr] at hh
          rcases hh with ⟨hh, _⟩ | ⟨w, o', T, hh, rfl, rep⟩
          · cases hh
          · cases hh
            cases rep with
            | fr f =>
              refine ⟨a, w, rfl, gg, G, F1, e1, j1, (PostS.out p2).imp fun z F2 H2 s2 ⟨e2, j2, p3⟩ u fu => ?_⟩
              cases hgz : g d z with
              | none => rw [hgz] at p3; exact p3.elim
              | some c =>
                rw [hgz] at p3
                refine hs2 F2 H2 w u d z c _ j2.sub (f.mono s2) fu hgz fun u2 F3 H3 gr fc => ?_
                obtain ⟨s3, j3⟩ := j2.grow gr
                have p4 : PostS X W G F2 D (e2[i]?.join.elim .no fun o2 => (dputO o2 k c).elim .no fun o' => .nx (e2.set i (some o'))) := p3
                cases he3 : e2[i]?.join with
                | none => rw [he3] at p4; exact p4.elim
                | some o2 =>
                  rw [he3] at p4
                  have p4 : PostS X W G F2 D ((dputO o2 k c).elim .no fun o' => .nx (e2.set i (some o'))) := p4
                  cases hp : dputO o2 k c with
                  | none => rw [hp] at p4; exact p4.elim
                  | some o' =>
                    rw [hp] at p4
                    obtain ⟨a', H', ea, gp, j4⟩ := j3.dput (jn he3) h1 (fy.mono (s2.trans s3)) fc hp
                    cases ea
                    exact ⟨H', gp, p4 F3 σ H' s3 j4⟩
theorem s_dnewK (i : Nat) {x : Str} {pos' p2 : Pos} (hN : X.N.Nodup) (hi : X.N[i]? = some x := by rfl) (hx : Loc X.env.scope x := by first | exact Or.inl rfl | exact Or.inr rfl) (hks : i ∉ ks := by decide)
    (hs : swapsWith (.Dict [] [] p2) (some (.Name x pos')) pos.line X.env = pure false := by rfl) (hf : X.fn x = true ∨ X.env.scope.names.lookup x = some .local := by first | exact .inl rfl | exact .inr rfl) : DS X W ks (.Assign [.Name x pos'] (.Dict [] [] p2) pos) (sDnew i false) := by
  refine weakS (ps_set hN hi hx pe_dnewK hs hf) fun D σ H ⟨G, F, env, hk, j, p⟩ => ?_
  intro q hq
  exact p F _ _ (Same.refl F) (j.newO hq (.dK []) (v := .ref q) (o := mkK []) (.nd (N := fun b => b = q) (Sf := fun _ _ => False) (vs := []) ⟨upd_same, rfl, fun b => Iff.rfl⟩ (fun b h => h) rfl (fun j v o e1 e2 => by cases e1) (fun _ _ _ h => h.elim) (fun _ _ h => h.elim)) (by rw [hk]; exact hks))
theorem s_dnewT (i : Nat) {x : Str} {pos' p2 : Pos} (hN : X.N.Nodup) (hi : X.N[i]? = some x := by rfl) (hx : Loc X.env.scope x := by first | exact Or.inl rfl | exact Or.inr rfl) (hks : i ∉ ks := by decide)
    (hs : swapsWith (.Dict [] [] p2) (some (.Name x pos')) pos.line X.env = pure false := by rfl) (hf : X.fn x = true ∨ X.env.scope.names.lookup x = some .local := by first | exact .inl rfl | exact .inr rfl) : DS X W ks (.Assign [.Name x pos'] (.Dict [] [] p2) pos) (sDnew i true) := by
  refine weakS (ps_set hN hi hx pe_dnewT hs hf) fun D σ H ⟨G, F, env, hk, j, p⟩ => ?_
  intro q hq
  exact p F _ _ (Same.refl F) (j.newO hq (.dT []) (v := .ref q) (o := mkT []) (.nd (N := fun b => b = q) (Sf := fun _ _ => False) (vs := []) ⟨upd_same, rfl, fun b => Iff.rfl⟩ (fun b h => h) rfl (fun j v o e1 e2 => by cases e1) (fun _ _ _ h => h.elim) (fun _ _ h => h.elim)) (by rw [hk]; exact hks))
end
end Ly

set_option Elab.async false
set_option linter.all false
set_option maxRecDepth 100000
set_option maxHeartbeats 4000000
set_option autoImplicit false
namespace Ly
open PySem PySem.Spec L2
/-! ## expressions whose value is new, and owned -/
section
variable {K : PySem.W.Frag} {mg : MG} {G : Gd} {F : Hp} {env : Ev} {σ : St} {H : Hp}
theorem J0.protect2 {o : O} {v : V} (j : J0 K mg G F (env ++ [some o]) (σ ++ [some v]) H) : ∃ G' : Gd, G'.io = [] ∧ J0 K mg G' F env σ H ∧
    ∀ F' env' σ' H', Same F F' → J0 K mg G' F' env' σ' H' → J0 K mg G F' (env' ++ [some o]) (σ' ++ [some v]) H' := by
  obtain ⟨Sf, r⟩ := j.ex
  have hl : env.length = σ.length := by
    have := j.len
    rw [List.length_append, List.length_append, List.length_singleton, List.length_singleton] at this
    omega
  obtain ⟨v', q1, q2⟩ := r.row env.length o (by rw [List.getElem?_append_right (Nat.le_refl _), Nat.sub_self]; rfl)
  rw [hl, List.getElem?_append_right (Nat.le_refl _), Nat.sub_self] at q1
  have e' : v = v' := by simpa using q1
  subst e'
  refine ⟨⟨F, H, fun a => ∃ i, i < env.length ∧ Sf i a, []⟩, rfl, ?_, ?_⟩
  · refine ⟨hl, ⟨fun i a => i < env.length ∧ Sf i a, ?_, fun i k a h1 h2 => r.dis i k a h1.2 h2.2, fun i a h => ⟨(r.bnd i a h.2).1, (r.bnd i a h.2).2.1, .inr ⟨i, h⟩⟩⟩, j.sub, fun a o e _ => e, Same.refl F, fun a h => .inl h⟩
    intro i o' e
    have hi := (List.getElem?_eq_some_iff.mp e).1
    obtain ⟨v', h1, h2⟩ := r.row i o' (by rw [List.getElem?_append_left hi]; exact e)
    rw [List.getElem?_append_left (by rw [← hl]; exact hi)] at h1
    exact ⟨v', h1, h2.up fun b z => ⟨hi, z⟩⟩
  · intro F' env' σ' H' s j'
    obtain ⟨Sg, r'⟩ := j'.ex
    have hl' : env'.length = σ'.length := j'.len
    -- what the last row holds stands as it stood
    have nS : ∀ a, Sf env.length a → ¬ ∃ i, i < env.length ∧ Sf i a := fun a h ⟨i, hi, q⟩ => by
      have := r.dis _ _ a h q
      omega
    have kp : ∀ a o, Sf env.length a → H a = some o → H' a = some o := fun a o h e => j'.keep a o e (nS a h)
    have nF : ∀ a, Sf env.length a → F' a = none := fun a h => by
      cases hF : F' a with
      | none => rfl
      | some u =>
        exfalso
        rcases j'.fs a (by rw [hF]; exact Option.some_ne_none _) with z | z
        · exact z (r.bnd _ a h).1
        · rcases z with z | z
          · exact (r.bnd _ a h).2.1 z
          · exact nS a h z
    have gS : ∀ a, (Gd.S ⟨F, H, fun a => ∃ i, i < env.length ∧ Sf i a, []⟩ a) → G.S a := fun a z => by
      rcases z with z | ⟨i, _, z⟩
      · exact (j.free z).2
      · exact (r.bnd i a z).2.2
    have apart : ∀ i a, Sg i a → ¬ Sf env.length a := fun i a h q => by
      rcases (r'.bnd i a h).2.2 with z | z
      · exact (r.bnd _ a q).2.1 z
      · exact nS a q z
    refine ⟨by rw [List.length_append, List.length_append, j'.len]; rfl, ⟨fun i a => if i = env'.length then Sf env.length a else Sg i a, ?_, ?_, ?_⟩, j'.sub, ?_, fun a o e => j'.f0 a o (j.f0 a o e), ?_⟩
    · intro i o' e
      by_cases hi : i = env'.length
      · subst hi
        rw [List.getElem?_append_right (Nat.le_refl _), Nat.sub_self] at e
        have e2 : o = o' := by simpa using e
        subst e2
        refine ⟨v, ?_, (q2.frame s fun b u z w => kp b u z w).up fun b z => by rw [if_pos rfl]; exact z⟩
        rw [hl', List.getElem?_append_right (Nat.le_refl _), Nat.sub_self]
        rfl
      · have hlt : i < env'.length := by
          have := (List.getElem?_eq_some_iff.mp e).1
          rw [List.length_append, List.length_singleton] at this
          omega
        rw [List.getElem?_append_left hlt] at e
        obtain ⟨v', h1, h2⟩ := r'.row i o' e
        exact ⟨v', by rw [List.getElem?_append_left (by rw [← hl']; exact hlt)]; exact h1, h2.up fun b z => by rw [if_neg hi]; exact z⟩
    · intro i k a h1 h2
      try dsimp only at h1 h2
      by_cases hi : i = env'.length
      · by_cases hk : k = env'.length
        · rw [hi, hk]
        · rw [if_pos hi] at h1
          rw [if_neg hk] at h2
          exact absurd h1 (apart k a h2)
      · rw [if_neg hi] at h1
        by_cases hk : k = env'.length
        · rw [if_pos hk] at h2
          exact absurd h2 (apart i a h1)
        · rw [if_neg hk] at h2
          exact r'.dis i k a h1 h2
    · intro i a h1
      try dsimp only at h1
      by_cases hi : i = env'.length
      · rw [if_pos hi] at h1
        refine ⟨nF a h1, ?_, (r.bnd _ a h1).2.2⟩
        cases hH : H a with
        | none => exact absurd hH (r.bnd _ a h1).2.1
        | some u =>
          rw [kp a u h1 hH]
          exact Option.some_ne_none _
      · rw [if_neg hi] at h1
        exact ⟨(r'.bnd i a h1).1, (r'.bnd i a h1).2.1, gS a (r'.bnd i a h1).2.2⟩
    · intro a u e q
      refine j'.keep a u (j.keep a u e q) fun ⟨i, _, z⟩ => ?_
      rcases (r.bnd i a z).2.2 with w | w
      · rw [e] at w; cases w
      · exact q w
    · intro a h
      rcases j'.fs a h with z | z
      · exact j.fs a z
      · exact .inr (gS a z)
/-- the row before the last becomes an item of the list of the last -/
theorem J0.adopt {o : O} {v : V} {xs : List O} {D : Addr} (j : J0 K mg G F ((env ++ [some o]) ++ [some (.nd .lst xs)]) ((σ ++ [some v]) ++ [some (.ref D)]) H) :
    ∃ vs, H D = some (.lst vs) ∧ vs.length = xs.length ∧ J0 K mg G F (env ++ [some (.nd .lst (xs ++ [o]))]) (σ ++ [some (.ref D)]) (upd H D (.lst (vs ++ [v]))) := by
  obtain ⟨Sf, r⟩ := j.ex
  have hl : env.length = σ.length := by
    have := j.len
    simp only [List.length_append, List.length_singleton] at this
    omega
  have l1 : (env ++ [some o]).length = env.length + 1 := by rw [List.length_append]; rfl
  have l2 : (σ ++ [some v]).length = env.length + 1 := by rw [List.length_append, hl]; rfl
  obtain ⟨v', p1, p2⟩ := r.row env.length o (by rw [List.getElem?_append_left (by rw [l1]; omega), List.getElem?_append_right (Nat.le_refl _), Nat.sub_self]; rfl)
  rw [List.getElem?_append_left (by rw [l2]; omega), hl, List.getElem?_append_right (Nat.le_refl _), Nat.sub_self] at p1
  have e1 : v = v' := by simpa using p1
  subst e1
  obtain ⟨u, q1, q2⟩ := r.row (env.length + 1) (.nd .lst xs) (by rw [List.getElem?_append_right (by rw [l1]; exact Nat.le_refl _), l1, Nat.sub_self]; rfl)
  rw [List.getElem?_append_right (by rw [l2]; exact Nat.le_refl _), l2, Nat.sub_self] at q1
  have e2 : V.ref D = u := by simpa using q1
  subst e2
  obtain ⟨a, vs, Sg, ea, h1, h2, h3, h4, h5, h6⟩ := q2.lst
  cases ea
  have bD := r.bnd _ D h2
  have nD : ∀ i, Sf i D → i = env.length + 1 := fun i z => r.dis _ _ D z h2
  refine ⟨vs, h1, h3, ?_⟩
  refine ⟨by rw [List.length_append, List.length_append, hl]; rfl, ⟨fun i a => if i = env.length then (Sf env.length a ∨ Sf (env.length + 1) a) else (i < env.length ∧ Sf i a), ?_, ?_, ?_⟩, ?_, ?_, j.f0, j.fs⟩
  · intro i o' e
    by_cases hi : i = env.length
    · subst hi
      rw [List.getElem?_append_right (Nat.le_refl _), Nat.sub_self] at e
      have e3 : O.nd .lst (xs ++ [o]) = o' := by simpa using e
      subst e3
      refine ⟨.ref D, by rw [hl, List.getElem?_append_right (Nat.le_refl _), Nat.sub_self]; rfl, ?_⟩
      refine .lst_mk (Sf := fun k a => if k < vs.length then Sg k a else (k = vs.length ∧ Sf env.length a)) upd_same (by rw [if_pos rfl]; exact .inr h2) (by rw [List.length_append, List.length_append, h3]; rfl) (fun k w x z1 z2 => ?_) ?_ ?_
      · by_cases hk : k < vs.length
        · rw [List.getElem?_append_left hk] at z1
          rw [List.getElem?_append_left (by omega)] at z2
          refine ((h4 k w x z1 z2).frame (Same.refl F) fun b y g z => ?_).up fun b g => by rw [if_pos hk]; exact g
          rw [upd_ne (h6 k b g).2]
          exact z
        · have hk2 : k = vs.length := by
            have := (List.getElem?_eq_some_iff.mp z1).1
            rw [List.length_append] at this
            have : k < vs.length + 1 := this
            omega
          rw [hk2, List.getElem?_append_right (Nat.le_refl _), Nat.sub_self] at z1
          rw [hk2, h3, List.getElem?_append_right (Nat.le_refl _), Nat.sub_self] at z2
          have e4 : v = w := by simpa using z1
          have e5 : o = x := by simpa using z2
          subst e4 e5
          refine (p2.frame (Same.refl F) fun b y g z => ?_).up fun b g => by rw [if_neg hk]; exact ⟨hk2, g⟩
          rw [upd_ne fun w => by rw [w] at g; have := nD _ g; omega]
          exact z
      · intro i k b g1 g2
        try dsimp only at g1 g2
        by_cases c1 : i < vs.length
        · rw [if_pos c1] at g1
          by_cases c2 : k < vs.length
          · rw [if_pos c2] at g2
            exact h5 i k b g1 g2
          · rw [if_neg c2] at g2
            have := r.dis _ _ b (h6 i b g1).1 g2.2
            omega
        · rw [if_neg c1] at g1
          by_cases c2 : k < vs.length
          · rw [if_pos c2] at g2
            have := r.dis _ _ b (h6 k b g2).1 g1.2
            omega
          · rw [if_neg c2] at g2
            rw [g1.1, g2.1]
      · intro k b g
        try dsimp only at g ⊢
        rw [if_pos rfl]
        by_cases c1 : k < vs.length
        · rw [if_pos c1] at g
          exact ⟨.inr (h6 k b g).1, (h6 k b g).2⟩
        · rw [if_neg c1] at g
          exact ⟨.inl g.2, fun w => by rw [w] at g; have := nD _ g.2; omega⟩
    · have hlt : i < env.length := by
        have := (List.getElem?_eq_some_iff.mp e).1
        rw [List.length_append] at this
        have : i < env.length + 1 := this
        omega
      rw [List.getElem?_append_left hlt] at e
      obtain ⟨w, z1, z2⟩ := r.row i o' (by rw [List.getElem?_append_left (by rw [l1]; omega), List.getElem?_append_left hlt]; exact e)
      rw [List.getElem?_append_left (by rw [l2]; omega), List.getElem?_append_left (by omega)] at z1
      refine ⟨w, by rw [List.getElem?_append_left (by omega)]; exact z1, (z2.frame (Same.refl F) fun b y g z => ?_).up fun b g => by rw [if_neg hi]; exact ⟨hlt, g⟩⟩
      rw [upd_ne fun y => by rw [y] at g; have := nD _ g; omega]
      exact z
  · intro i k a g1 g2
    try dsimp only at g1 g2
    by_cases hi : i = env.length
    · by_cases hk : k = env.length
      · rw [hi, hk]
      · rw [if_pos hi] at g1
        rw [if_neg hk] at g2
        rcases g1 with g1 | g1
        · have := r.dis _ _ a g1 g2.2
          omega
        · have := r.dis _ _ a g1 g2.2
          omega
    · rw [if_neg hi] at g1
      by_cases hk : k = env.length
      · rw [if_pos hk] at g2
        rcases g2 with g2 | g2
        · have := r.dis _ _ a g1.2 g2
          omega
        · have := r.dis _ _ a g1.2 g2
          omega
      · rw [if_neg hk] at g2
        exact r.dis _ _ a g1.2 g2.2
  · intro i a g
    try dsimp only at g
    have key : ∀ k, Sf k a → F a = none ∧ upd H D (.lst (vs ++ [v])) a ≠ none ∧ G.S a := fun k z => by
      obtain ⟨y1, y2, y3⟩ := r.bnd k a z
      refine ⟨y1, ?_, y3⟩
      by_cases w : a = D
      · subst w
        rw [upd_same]
        exact fun y => nomatch y
      · rw [upd_ne w]
        exact y2
    by_cases hi : i = env.length
    · rw [if_pos hi] at g
      rcases g with g | g
      · exact key _ g
      · exact key _ g
    · rw [if_neg hi] at g
      exact key _ g.2
  · intro b u q
    have ne : b ≠ D := fun z => by rw [z, bD.1] at q; cases q
    rw [upd_ne ne]
    exact j.sub b u q
  · intro b u q q2
    have ne : b ≠ D := fun z => by
      rcases bD.2.2 with w | w
      · rw [z, w] at q; cases q
      · exact q2 (by rw [z]; exact w)
    rw [upd_ne ne]
    exact j.keep b u q q2
theorem J0.unwipeL {F' : Hp} {e1 e2 : Ev} {H' : Hp} {o : O} {v : V} {own : List Nat} (j1 : J0 K mg G F e1 σ H) (j2 : J0 K mg G F' (e2 ++ [some o]) (L2.wipe σ own ++ [some v]) H') (s : Same F F') : J0 K mg G F' (restE own e1 e2 ++ [some o]) (σ ++ [some v]) H' := by
  obtain ⟨Sf, r⟩ := j2.ex
  have hl : e2.length = σ.length := by
    have := j2.len
    simp only [List.length_append, List.length_singleton, wipe_length] at this
    omega
  refine ⟨by rw [List.length_append, List.length_append, restE_len, hl]; rfl, ⟨Sf, ?_, r.dis, r.bnd⟩, j2.sub, j2.keep, j2.f0, j2.fs⟩
  intro k o' e
  by_cases hk : k < e2.length
  · rw [List.getElem?_append_left (by rw [restE_len]; exact hk)] at e
    rcases restE_get e with ⟨d, rfl, q⟩ | q
    · obtain ⟨w, h1, h2⟩ := j1.fr q
      exact ⟨w, by rw [List.getElem?_append_left (by omega)]; exact h1, .fr (h2.mono s)⟩
    · obtain ⟨w, h1, h2⟩ := r.row k o' (by rw [List.getElem?_append_left hk]; exact q)
      rw [List.getElem?_append_left (by rw [wipe_length]; omega)] at h1
      exact ⟨w, by rw [List.getElem?_append_left (by omega)]; exact (wipe_some h1).1, h2⟩
  · have hk2 : k = e2.length := by
      have := (List.getElem?_eq_some_iff.mp e).1
      rw [List.length_append, restE_len] at this
      have : k < e2.length + 1 := this
      omega
    subst hk2
    rw [List.getElem?_append_right (by rw [restE_len]; exact Nat.le_refl _), restE_len, Nat.sub_self] at e
    have e' : o = o' := by simpa using e
    subst e'
    obtain ⟨w, h1, h2⟩ := r.row e2.length o (by rw [List.getElem?_append_right (Nat.le_refl _), Nat.sub_self]; rfl)
    rw [List.getElem?_append_right (by rw [wipe_length]; omega), wipe_length, hl, Nat.sub_self] at h1
    have e3 : v = w := by simpa using h1
    subst e3
    exact ⟨v, by rw [hl, List.getElem?_append_right (Nat.le_refl _), Nat.sub_self]; rfl, h2⟩
theorem J0.wipeL {o : Option O} {v : Option V} : ∀ (own : List Nat), (∀ i ∈ own, i < env.length) → J0 K mg G F (env ++ [o]) (σ ++ [v]) H → J0 K mg G F (wipeE env own ++ [o]) (L2.wipe σ own ++ [v]) H
  | [], _, j => j
  | i :: is, h, j => by
    have j2 := J0.wipeL is (fun k hk => h k (List.mem_cons_of_mem _ hk)) j
    have hl : (wipeE env is).length = (L2.wipe σ is).length := by
      have := j2.len
      simp only [List.length_append, List.length_singleton] at this
      omega
    have wl : ∀ own : List Nat, (wipeE env own).length = env.length := fun own => by
      induction own with
      | nil => rfl
      | cons a b ih => show ((wipeE env b).set a none).length = _; rw [List.length_set, ih]
    have hi := h i List.mem_cons_self
    have j3 := j2.drop (i := i) (x := none)
    rw [List.set_append_left _ _ (by rw [wl]; exact hi), List.set_append_left _ _ (by rw [← hl, wl]; exact hi)] at j3
    exact j3
end
abbrev NM := Ev → Res O
def PostN (X : Cx) (W : WX) (G : Gd) (F : Hp) (σ : St) (Q : VK) : Res O → Prop
  | .ok o e => ∀ F' H' v, Same F F' → J0 X.K X.mg G F' (e ++ [some o]) (σ ++ [some v]) H' → Q v H'
  | .exc c e => ∀ F' H' C, X.mg c = some (.ref C) → Same F F' → J X.K X.mg G F' e σ H' → W (.ref C) none σ H'
  | .no => False
def canN (X : Cx) (W : WX) (f : NM) : TE := fun σ H Q => ∃ G F env, J X.K X.mg G F env σ H ∧ PostN X W G F σ Q (f env)
def DN (X : Cx) (W : WX) (e : Expr) (f : NM) : Prop := PE X e (canN X W f)
section
variable {X : Cx} {W : WX} {G : Gd} {F F' : Hp} {σ : St} {α : Type} {Q : VK}
theorem PostN.mono {r : Res O} (h : PostN X W G F σ Q r) (s : Same F F') : PostN X W G F' σ Q r := by
  cases r with
  | ok a e => exact fun F2 H2 v s2 j => h F2 H2 v (s.trans s2) j
  | exc c e => exact fun F2 H2 C hc s2 j => h F2 H2 C hc (s.trans s2) j
  | no => exact h
theorem PostN.bind {r : Res α} {k : α → Ev → Res O} (h : PostN X W G F σ Q (r.bind k)) :
    PostR X W G F σ (fun a F' H' => ∃ e', J X.K X.mg G F' e' σ H' ∧ PostN X W G F' σ Q (k a e')) r := by
  cases r with
  | ok a e => exact fun F' H' s j => ⟨e, j, PostN.mono h s⟩
  | exc c e => exact h
  | no => exact h
end
/-- data are such a value, too -/
def nE (f : EM) : NM := fun e => (f e).bind fun d e1 => .ok (.fr d) e1
def nL (l : LM) : NM := fun e => (l e).bind fun ds e1 => if ds.length ≤ sz then .ok (.nd .lst (ds.map .fr)) e1 else .no
def repB (n : Nat) (k : Int) : Bool := decide (-(2 ^ 63) ≤ k) && decide (k < 2 ^ 63) && decide (n * k.toNat ≤ sz)
def nRep (l : LM) (b : EM) : NM := fun e => (l e).bind fun ds e1 => if ds.length ≤ sz then (b e1).bind fun k e2 => (intD k).elim .no fun z => if repB ds.length z then .ok (.nd .lst (((List.replicate z.toNat ds).flatten).map .fr)) e2 else .no else .no
def eRep (l : LM) (b : EM) : EM := fun e => (l e).bind fun ds e1 => if ds.length ≤ sz then (b e1).bind fun k e2 => (intD k).elim .no fun z => if repB ds.length z then .ok (.list ((List.replicate z.toNat ds).flatten)) e2 else .no else .no
def compN (u : UM) (t : TM) (f : NM) (own : List Nat) : List PyData → Ev → Res (List O)
  | [], e => .ok [] e
  | d :: ds, e => (u d).elim .no fun as => (t (setEv e as)).nox.bind fun b e2 => if b then (f e2).nox.bind fun y e3 => (compN u t f own ds (wipeE e3 own)).bind fun ys e4 => .ok (y :: ys) e4 else compN u t f own ds (wipeE e2 own)
def nComp (it : LM) (u : UM) (t : TM) (f : NM) (own : List Nat) : NM := fun e => (it e).bind fun ds e1 => if ds.length ≤ sz ∧ own.all (fun i => decide (i < e1.length)) = true then (compN u t f own ds (wipeE e1 own)).bind fun ys e2 => .ok (.nd .lst ys) (restE own e1 e2) else .no
def sStN (i : Nat) (f : NM) : SM := fun e => (f e).out fun o e1 => .nx (e1.set i (some o))
theorem fz_rep {K : PySem.W.Frag} {F : Hp} {vs : List V} {ds : List PyData} (h : FzL K F vs ds) : ∀ n, FzL K F (List.replicate n vs).flatten (List.replicate n ds).flatten
  | 0 => .nil
  | n + 1 => by
    rw [List.replicate_succ, List.replicate_succ, List.flatten_cons, List.flatten_cons]
    exact h.app (fz_rep h n)
section
variable {X : Cx} {W : WX} {e b : Expr} {es : List Expr} {f : EM} {l : LM} {ks : List Nat} {pos : Pos}
theorem n_em (h : DE X W e f) : DN X W e (nE f) := weakE h fun σ H Q ⟨G, F, env, j, p⟩ =>
  ⟨G, F, env, j, p.bind.imp fun d F1 H1 s1 ⟨e1, j1, p2⟩ v fv => p2 F1 H1 v (Same.refl F1) (j1.j0.addF fv)⟩
theorem n_lst (h : DL X W es l) : DN X W (.List es pos) (nL l) := by
  refine weakE (pe_lst h) fun σ H Q ⟨G, F, env, j, p⟩ => ?_
  refine ⟨G, F, env, j, p.bind.imp fun ds F1 H1 s1 ⟨e1, j1, p2⟩ vs fv => ?_⟩
  split at p2
  · rename_i hl
    exact ⟨by rw [fv.length, sz_eq]; exact hl, fun q hq => p2 F1 _ _ (Same.refl F1) (j1.j0.newO hq _ (rep_new fv))⟩
  · exact p2.elim
theorem repB_of {n : Nat} {k : Int} (h : repB n k = true) : -(2 ^ 63) ≤ k ∧ k < 2 ^ 63 ∧ n * k.toNat ≤ sz := by
  unfold repB at h
  simp only [Bool.and_eq_true, decide_eq_true_eq] at h
  exact ⟨h.1.1, h.1.2, h.2⟩
theorem n_rep (h : DL X W es l) (hb : DE X W b f) {p2 : Pos} : DN X W (.BinOp (.List es p2) .Mult b pos) (nRep l f) := by
  refine weakE (pe_op op_rep (pe_lst h) hb) fun σ H Q ⟨G, F, env, j, p⟩ => ?_
  refine ⟨G, F, env, j, p.bind.imp fun ds F1 H1 s1 ⟨e1, j1, p2⟩ vs fv => ?_⟩
  by_cases hl : ds.length ≤ sz
  case neg =>
    rw [if_neg hl] at p2
    exact p2.elim
  rw [if_pos hl] at p2
  refine ⟨by rw [fv.length, sz_eq]; exact hl, fun q hq => ?_⟩
  have j2 := j1.newF hq (.lst vs)
  have s2 := same_new (F := F1) (o := HO.lst vs) (j1.free hq)
  refine ⟨G, _, e1, j2, (PostN.bind (p2.mono s2)).imp fun k F3 H3 s3 ⟨e3, j3, p3⟩ w fw => ?_⟩
  cases hk : intD k with
  | none => rw [hk] at p3; exact p3.elim
  | some z =>
    rw [hk] at p3
    have p3 : PostN X W G F3 σ Q (if repB ds.length z = true then .ok (.nd .lst (((List.replicate z.toNat ds).flatten).map .fr)) e3 else .no) := p3
    by_cases hr : repB ds.length z = true
    · rw [if_pos hr] at p3
      obtain ⟨b1, b2, b3⟩ := repB_of hr
      have hz := intD_some hk
      subst hz
      cases fw
      have hH : H3 q = some (.lst vs) := j3.sub _ _ (s3 _ _ upd_same)
      refine ⟨q, z, vs, rfl, rfl, hH, b1, b2, by rw [fv.length, sz_eq]; exact b3, fun p hp => ?_⟩
      exact p3 F3 _ _ (Same.refl F3) (j3.j0.newO hp _ (rep_new (fz_rep ((fv.mono s2).mono s3) _)))
    · rw [if_neg hr] at p3
      exact p3.elim
theorem d_rep (h : DL X W es l) (hb : DE X W b f) {p2 : Pos} : DE X W (.BinOp (.List es p2) .Mult b pos) (eRep l f) := by
  refine weakE (pe_op op_rep (pe_lst h) hb) fun σ H Q ⟨G, F, env, j, p⟩ => ?_
  refine ⟨G, F, env, j, p.bind.imp fun ds F1 H1 s1 ⟨e1, j1, p2⟩ vs fv => ?_⟩
  by_cases hl : ds.length ≤ sz
  case neg =>
    rw [if_neg hl] at p2
    exact p2.elim
  rw [if_pos hl] at p2
  refine ⟨by rw [fv.length, sz_eq]; exact hl, fun q hq => ?_⟩
  have j2 := j1.newF hq (.lst vs)
  have s2 := same_new (F := F1) (o := HO.lst vs) (j1.free hq)
  refine ⟨G, _, e1, j2, (PostR.bind (p2.mono s2)).imp fun k F3 H3 s3 ⟨e3, j3, p3⟩ w fw => ?_⟩
  cases hk : intD k with
  | none => rw [hk] at p3; exact p3.elim
  | some z =>
    rw [hk] at p3
    have p3 : PostR X W G F3 σ (fun d F' H' => ∀ v, Fz X.K F' v d → Q v H') (if repB ds.length z = true then .ok (.list ((List.replicate z.toNat ds).flatten)) e3 else .no) := p3
    by_cases hr : repB ds.length z = true
    · rw [if_pos hr] at p3
      obtain ⟨b1, b2, b3⟩ := repB_of hr
      have hz := intD_some hk
      subst hz
      cases fw
      have hH : H3 q = some (.lst vs) := j3.sub _ _ (s3 _ _ upd_same)
      refine ⟨q, z, vs, rfl, rfl, hH, b1, b2, by rw [fv.length, sz_eq]; exact b3, fun p hp => ?_⟩
      exact p3 _ _ (same_new (j3.free hp)) (j3.newF hp _) _ (.lst (.inl (.inl upd_same)) (FzL.mono (same_new (j3.free hp)) (fz_rep ((fv.mono s2).mono s3) _)))
    · rw [if_neg hr] at p3
      exact p3.elim
theorem canCompN {it : LM} {u : UM} {t : TM} {f : NM} {own : List Nat} (hu : ∀ d as, u d = some as → ∀ i ∈ as.map (·.1), i ∈ own) (σ : St) (H : Hp) (Q : VK) (h : canN X W (nComp it u t f own) σ H Q) :
    tLc (canI X W it) (canG X.K u) (canT X WF t) (canN X WF f) own σ H Q := by
  obtain ⟨G, F, env, j, p⟩ := h
  refine ⟨G, F, env, j, (PostN.bind p).imp fun ds F1 H1 s1 ⟨e1, j1, p2⟩ T w D hD => ?_⟩
  by_cases hsz : ds.length ≤ sz ∧ own.all (fun i => decide (i < e1.length)) = true
  case neg =>
    rw [if_neg hsz] at p2
    exact p2.elim
  rw [if_pos hsz] at p2
  obtain ⟨hsz, hown⟩ := hsz
  have hown : ∀ i ∈ own, i < e1.length := fun i hi => of_decide_eq_true (List.all_eq_true.mp hown i hi)
  have wl : ∀ (e : Ev) (own : List Nat), (wipeE e own).length = e.length := fun e own => by
    induction own with
    | nil => rfl
    | cons a b ih => show ((wipeE e b).set a none).length = _; rw [List.length_set, ih]
  have j2 := (j1.j0.wipe own).newO hD (.lst []) (v := .ref D) (o := .nd .lst []) (rep_new (ds := []) .nil)
  refine ⟨fun i m H' => ∃ F' env' acc, Same F1 F' ∧ J0 X.K X.mg G F' (env' ++ [some (.nd .lst acc)]) (wipe σ own ++ [some (.ref D)]) H' ∧ i + m = ds.length ∧ acc.length ≤ i ∧
    PostN X W G F1 σ Q ((compN u t f own (ds.drop i) env').bind fun ys e2 => .ok (.nd .lst (acc ++ ys)) (restE own e1 e2)),
    ⟨ds.length, F1, wipeE e1 own, [], Same.refl F1, j2, by omega, Nat.le_refl _, p2⟩, ?_⟩
  rintro i m H' ⟨F', env', acc, s', j', him, hacc, q⟩
  obtain ⟨wg, ws⟩ := w F' H' s' j'.sub i
  by_cases hlt : i < ds.length
  · obtain ⟨go, yld⟩ := wg _ (List.getElem?_eq_getElem hlt)
    rw [List.drop_eq_getElem_cons hlt] at q
    unfold compN at q
    refine .inr ⟨go, fun H2 => ∃ F2 env2 acc2, Same F1 F2 ∧ J0 X.K X.mg G F2 (env2 ++ [some (.nd .lst acc2)]) (wipe σ own ++ [some (.ref D)]) H2 ∧ acc2.length ≤ i + 1 ∧
      PostN X W G F1 σ Q ((compN u t f own (ds.drop (i + 1)) env2).bind fun ys e2 => .ok (.nd .lst (acc2 ++ ys)) (restE own e1 e2)),
      fun H2 ⟨F2, env2, acc2, a1, a2, a3, a4⟩ => ⟨m - 1, by omega, F2, env2, acc2, a1, a2, by omega, a3, a4⟩, fun x H'' y => ?_⟩
    obtain ⟨F'', gr, fx⟩ := yld x H'' y
    have grow0 : ∀ {F a b c : Hp} {env : Ev} {σ : St}, Grow F a b c → J0 X.K X.mg G F env σ a → Same F b ∧ J0 X.K X.mg G b env σ c := by
      intro F a b c env σ g
      induction g with
      | refl => exact fun j => ⟨Same.refl _, j⟩
      | step g hp ih =>
        intro j
        obtain ⟨s, j1⟩ := ih j
        exact ⟨s.trans (same_new (j1.free hp).1), j1.newF hp _⟩
    obtain ⟨s'', j''⟩ := grow0 gr j'
    cases hu' : u ds[i] with
    | none => rw [hu'] at q; exact q.elim
    | some as =>
      rw [hu'] at q
      refine ⟨F'', ds[i], as, j''.sub, fx, hu', fun vs fvs => ⟨wipe_setAll (hu _ _ hu'), ?_⟩⟩
      obtain ⟨G', hio, jp, back⟩ := j''.protect2
      have io0 : ∀ {σ : St}, ∀ p ∈ G'.io, σ[p.1]? = some (some p.2) := fun p hp => by rw [hio] at hp; cases hp
      have j3 := jp.setAll fvs
      refine ⟨G', F'', _, ⟨j3, io0⟩, ?_⟩
      have q : PostN X W G F1 σ Q (((t (setEv env' as)).nox.bind fun b e2 => if b then (f e2).nox.bind fun y e3 => (compN u t f own (ds.drop (i + 1)) (wipeE e3 own)).bind fun ys e4 => .ok (y :: ys) e4 else compN u t f own (ds.drop (i + 1)) (wipeE e2 own)).bind fun ys e2 => .ok (.nd .lst (acc ++ ys)) (restE own e1 e2)) := q
      cases ht : t (setEv env' as) with
      | no => rw [ht] at q; exact q.elim
      | exc c e => rw [ht] at q; exact q.elim
      | ok b e2 =>
        rw [ht] at q
        intro F2 H2 s2 j4
        have wlr : wipe (setAll (wipe σ own) (as.map (·.1)) vs) own = wipe σ own := wipe_setAll (hu _ _ hu')
        cases b with
        | false =>
          refine iteF ?_
          have j5 := j4.j0.wipe own
          rw [wlr] at j5
          exact ⟨F2, wipeE e2 own, acc, s'.trans (s''.trans s2), back F2 _ _ H2 s2 j5, by omega, q⟩
        | true =>
          refine iteT ?_
          refine ⟨G', F2, e2, j4, ?_⟩
          have q' : PostN X W G F1 σ Q (((f e2).nox.bind fun y e3 => (compN u t f own (ds.drop (i + 1)) (wipeE e3 own)).bind fun ys e4 => .ok (y :: ys) e4).bind fun ys e2 => .ok (.nd .lst (acc ++ ys)) (restE own e1 e2)) := q
          cases hf : f e2 with
          | no => rw [hf] at q'; exact q'.elim
          | exc c e => rw [hf] at q'; exact q'.elim
          | ok y e3 =>
            rw [hf] at q'
            intro F3 H3 z s3 j6
            have el : e3.length = e1.length := by
              have a1 := j6.len
              have a2 := j1.j0.len
              simp only [List.length_append, List.length_singleton, setAll_len, wipe_length] at a1
              omega
            have j7 := J0.wipeL own (by rw [el]; exact hown) j6
            rw [wlr] at j7
            have j8 := back F3 _ _ H3 (s2.trans s3) j7
            obtain ⟨vs4, h1, h2, j9⟩ := j8.adopt
            refine ⟨vs4, h1, by rw [h2, sz_eq]; omega, F3, wipeE e3 own, acc ++ [y], s'.trans (s''.trans (s2.trans s3)), j9, by rw [List.length_append, List.length_singleton]; omega, ?_⟩
            have e : (fun (ys : List O) (e2 : Ev) => (Res.ok (.nd .lst ((acc ++ [y]) ++ ys)) (restE own e1 e2) : Res O)) = fun ys e2 => .ok (.nd .lst (acc ++ y :: ys)) (restE own e1 e2) := by
              funext ys e2
              rw [List.append_assoc]
              rfl
            rw [e]
            have q2 : PostN X W G F1 σ Q (((compN u t f own (ds.drop (i + 1)) (wipeE e3 own)).bind fun ys e4 => .ok (y :: ys) e4).bind fun ys e2 => .ok (.nd .lst (acc ++ ys)) (restE own e1 e2)) := q'
            rw [Res.bind_bind] at q2
            exact q2
  · have e : i = ds.length := by omega
    subst e
    rw [List.drop_length] at q
    refine .inl ⟨ws (Nat.le_refl _), ?_⟩
    have q' : PostN X W G F1 σ Q (.ok (.nd .lst (acc ++ [])) (restE own e1 env')) := q
    rw [List.append_nil] at q'
    exact q' F' H' _ s' (j1.j0.unwipeL j' s')
end
end Ly

set_option Elab.async false
set_option linter.all false
set_option maxRecDepth 100000
set_option maxHeartbeats 4000000
set_option autoImplicit false
namespace Ly
open PySem PySem.Spec L2
/-! ## owned values stored -/
section
variable {X : Cx} {W : WX} {e : Expr} {f : NM} {ks : List Nat} {pos : Pos}
theorem canStN {i : Nat} {te : TE} (k : ∀ σ H Q, canN X W f σ H Q → te σ H Q) (hi : i ∉ ks) (D : Ends) (σ : St) (H : Hp) (q : canS X W ks (sStN i f) D σ H) : tAsg te (gName i) D σ H := by
  obtain ⟨G, F, env, hk, j, p⟩ := q
  refine k σ H _ ⟨G, F, env, j, ?_⟩
  have p : PostS X W G F D ((f env).out fun o e1 => .nx (e1.set i (some o))) := p
  cases hf : f env with
  | no => rw [hf] at p; exact p.elim
  | exc c e =>
    rw [hf] at p
    exact fun F' H' C hc s j' => p F' σ H' C hc s j'
  | ok o e1 =>
    rw [hf] at p
    have p : PostS X W G F D (.nx (e1.set i (some o))) := p
    intro F' H' v s j'
    exact p F' _ H' s ⟨j'.set, io_set j.io (by rw [hk]; exact hi)⟩
theorem s_setN (i : Nat) {x : Str} {pos' : Pos} (hN : X.N.Nodup) (ha : DN X W e f) (hi : X.N[i]? = some x := by rfl) (hx : Loc X.env.scope x := by first | exact Or.inl rfl | exact Or.inr rfl) (hks : i ∉ ks := by decide) (hs : swapsWith e (some (.Name x pos')) pos.line X.env = pure false := by rfl)
    (hf : X.fn x = true ∨ X.env.scope.names.lookup x = some .local := by first | exact .inl rfl | exact .inr rfl) : DS X W ks (.Assign [.Name x pos'] e pos) (sStN i f) :=
  weakS (ps_set hN hi hx ha hs hf) (canStN (fun _ _ _ q => q) hks)
theorem n_comp {elt tg iter : Expr} {ifs : List Expr} {scope : Scope} {own : List (Str × Nat)} {it : LM} {u : UM} {t : TM} {is : List Nat} (hc : X.calm = true) (hN : X.N.Nodup) (hi : DI X W tg iter it) (ok : BlkOk X.N X.env.scope scope own)
    (hg : ∀ (s : Shared) (H : Hp) (C : Addr) (cl : List (Str × Addr)) (fp : List Addr), DG (X.blk s H scope (compEnvC scope cl C X.env) fp) is tg u) (ht : ∀ (s : Shared) (H : Hp) (C : Addr) (cl : List (Str × Addr)) (fp : List Addr), DTs (X.blk s H scope (compEnvC scope cl C X.env) fp) WF ifs t)
    (he : ∀ (s : Shared) (H : Hp) (C : Addr) (cl : List (Str × Addr)) (fp : List Addr), DN (X.blk s H scope (compEnvC scope cl C X.env) fp) WF elt f) (hown : ∀ i ∈ is, i ∈ own.map (·.2) := by decide) (hs : ∀ x, foldedSetIterable iter X.env x = pure x := by intro _; rfl) :
    DN X W (.ListComp elt [⟨tg, iter, ifs, 0⟩] scope pos) (nComp it u t f (own.map (·.2))) :=
  ⟨fun pins s σ H Q I h => (pe_lc (g := canG X.K u) (tt := canT X WF t) (te := canN X WF f) hc hN hi ok (fun s H C cl fp => (hg s H C cl fp).run) (fun s H C cl fp => (ht s H C cl fp).run) (fun s H C cl fp => he s H C cl fp) hs).run pins s σ H Q I
    (canCompN (fun d as h' i hi' => hown i (by rw [← (hg s H 0 [] []).st d as h']; exact hi')) σ H Q h)⟩
theorem s_compN (i : Nat) {y : Str} {py spos : Pos} {elt tg iter : Expr} {ifs : List Expr} {scope : Scope} {own : List (Str × Nat)} {it : LM} {u : UM} {t : TM} {is : List Nat} (hc : X.calm = true) (hN : X.N.Nodup)
    (hsw : swapsWith (.ListComp elt [⟨tg, iter, ifs, 0⟩] scope pos) (some (.Name y py)) spos.line X.env = pure true) (hi : DI X W tg iter it) (ok : BlkOk X.N X.env.scope scope own)
    (hg : ∀ (s : Shared) (H : Hp) (C : Addr) (cl : List (Str × Addr)) (fp : List Addr), DG (X.blk s H scope (compEnvC scope cl C X.env) fp) is tg u) (ht : ∀ (s : Shared) (H : Hp) (C : Addr) (cl : List (Str × Addr)) (fp : List Addr), DTs (X.blk s H scope (compEnvC scope cl C X.env) fp) WF ifs t)
    (he : ∀ (s : Shared) (H : Hp) (C : Addr) (cl : List (Str × Addr)) (fp : List Addr), DN (X.blk s H scope (compEnvC scope cl C X.env) fp) WF elt f) (hy : X.N[i]? = some y := by rfl) (hyl : X.env.scope.names.lookup y = some .local := by rfl) (hks : i ∉ ks := by decide) (hown : ∀ i ∈ is, i ∈ own.map (·.2) := by decide)
    (hs : ∀ x, foldedSetIterable iter X.env x = pure x := by intro _; rfl) : DS X W ks (.Assign [.Name y py] (.ListComp elt [⟨tg, iter, ifs, 0⟩] scope pos) spos) (sStN i (nComp it u t f (own.map (·.2)))) :=
  ⟨fun pins s σ H D I h => (ps_setLc (g := canG X.K u) (tt := canT X WF t) (te := canN X WF f) hc hN hy hyl hsw hi ok (fun s H C cl fp => (hg s H C cl fp).run) (fun s H C cl fp => (ht s H C cl fp).run) (fun s H C cl fp => he s H C cl fp) hs).run pins s σ H D I
    (canStN (fun σ H Q h => canCompN (fun d as h' i hi' => hown i (by rw [← (hg s H 0 [] []).st d as h']; exact hi')) σ H Q h) hks D σ H h)⟩
end
/-! ## x[a][b] = e: an owned list of owned lists -/
section
variable {K : PySem.W.Frag} {mg : MG} {F H : Hp} {S : Addr → Prop}
/-- an item of an owned list that is an owned list: the item's object changed -/
theorem Rep.sub_upd {a : Addr} {xs ys : List O} {vs : List V} {b : Addr} {ws : List V} {m k : Nat} {w : V} {d : PyData} (h : Rep K mg F H S (.ref a) (.nd .lst xs)) (h1 : H a = some (.lst vs)) (hv : vs[m]? = some (.ref b)) (hx : xs[m]? = some (.nd .lst ys)) (hb : H b = some (.lst ws)) (hk : k < ws.length) (f : Fz K F w d) :
    S b ∧ Rep K mg F (upd H b (.lst (ws.set k w))) S (.ref a) (.nd .lst (xs.set m (.nd .lst (ys.set k (.fr d))))) := by
  obtain ⟨a', vs', Sf, ea, q1, q2, q3, q4, q5, q6⟩ := h.lst
  cases ea
  rw [h1] at q1
  cases q1
  have r := q4 m _ _ hv hx
  obtain ⟨b', ws', Sg, eb, z1, z2, z3, z4, z5, z6⟩ := r.lst
  cases eb
  rw [hb] at z1
  cases z1
  have hba : b ≠ a := (q6 m b z2).2
  refine ⟨(q6 m b z2).1, ?_⟩
  refine .lst_mk (vs := vs) (Sf := Sf) (by rw [upd_ne (Ne.symm hba)]; exact h1) q2 (by rw [List.length_set]; exact q3) (fun j v o e1 e2 => ?_) q5 q6
  by_cases hj : m = j
  · subst hj
    rw [hv] at e1
    cases e1
    have hm : m < xs.length := (List.getElem?_eq_some_iff.mp hx).1
    rw [List.getElem?_set_self hm] at e2
    cases e2
    refine r.lst_upd (by rw [List.length_set, List.length_set]; exact z3) fun vs4 y1 y2 i v o w1 w2 => ?_
    rw [hb] at y1
    cases y1
    by_cases hi : k = i
    · subst hi
      rw [List.getElem?_set_self hk] at w1
      rw [List.getElem?_set_self (by omega)] at w2
      have e1 : w = v := by simpa using w1
      have e2 : O.fr d = o := by simpa using w2
      rw [← e1, ← e2]
      exact .inr ⟨d, rfl, f⟩
    · rw [List.getElem?_set_ne hi] at w1 w2
      exact .inl ⟨w1, w2⟩
  · rw [List.getElem?_set_ne hj] at e2
    refine (q4 j v o e1 e2).frame (Same.refl F) fun c u g y => ?_
    rw [upd_ne fun z => hj (q5 m j b z2 (by rw [← z]; exact g))]
    exact y
end
def lstC : Option O → Option (List O)
  | some (.nd .lst ys) => some ys
  | _ => none
theorem lstC_some {o : Option O} {ys : List O} (h : lstC o = some ys) : o = some (.nd .lst ys) := by
  unfold lstC at h
  split at h
  · cases h; rfl
  · cases h
/-! expressions that change nothing -/
abbrev PM := Ev → Option PyData
def canP (X : Cx) (p : PM) : TE := fun σ H Q => ∃ G F env d, J X.K X.mg G F env σ H ∧ p env = some d ∧ ∀ v, Fz X.K F v d → Q v H
def DP (X : Cx) (e : Expr) (p : PM) : Prop := PE X e (canP X p)
def pV (i : Nat) : PM := fun e => frD e[i]?.join
def pC (d : PyData) : PM := fun _ => some d
def pIx (p q : PM) : PM := fun e => (p e).bind fun x => (q e).bind fun y => (intD y).bind fun z => match x with
  | .list ds => atI ds z
  | .tuple ds => atI ds z
  | _ => none
section
variable {X : Cx} {a b : Expr} {p q : PM} {pos : Pos}
theorem p_v (i : Nat) {x : Str} (hN : X.N[i]? = some x := by rfl) (hv : Vis X.env.scope x := by first | exact Or.inl rfl | exact Or.inr (Or.inl rfl) | exact Or.inr (Or.inr rfl)) (hd : (x == ("__debug__" : Str)) = false := by decide)
    (hcd : (x == ("__classdict__" : Str)) = false := by decide) : DP X (.Name x pos) (pV i) := by
  refine weakE (pe_var hN hv hd hcd) fun σ H Q ⟨G, F, env, d, j, e, k⟩ => ?_
  obtain ⟨v, h1, h2⟩ := j.fr (join_some e)
  exact ⟨v, h1, k v h2⟩
theorem p_int {i : Int} {j pos} : DP X (.Constant (.int i) j pos) (pC (.int i)) := weakE pe_int fun σ H Q ⟨G, F, env, d, j, e, k⟩ => by
  cases e
  exact k _ (.int i)
theorem p_ix (ha : DP X a p) (hb : DP X b q) (hp : PlainIx b := by exact fun _ _ => rfl) : DP X (.Subscript a b pos) (pIx p q) := by
  refine weakE (pe_ix ix_seq ha hb hp) fun σ H Q ⟨G, F, env, d, j, e, k⟩ => ?_
  unfold pIx at e
  cases h1 : p env with
  | none => rw [h1] at e; cases e
  | some x =>
    cases h2 : q env with
    | none => rw [h1, h2] at e; cases e
    | some y =>
      cases h3 : intD y with
      | none => rw [h1, h2] at e; simp only [Option.bind_some, h3] at e; cases e
      | some z =>
        rw [h1, h2] at e
        simp only [Option.bind_some, h3] at e
        refine ⟨G, F, env, x, j, h1, fun v fv => ⟨G, F, env, y, j, h2, fun w fw => ?_⟩⟩
        have := intD_some h3
        subst this
        cases fw
        cases fv with
        | lst s t =>
          obtain ⟨u, u1, u2⟩ := atI_fz t e
          exact .inl ⟨_, _, z, u, rfl, rfl, j.sub.seq s, u1, k u u2⟩
        | tup s t =>
          obtain ⟨u, u1, u2⟩ := atI_fz t e
          exact .inr (.inl ⟨_, _, z, u, rfl, rfl, sameT j.sub (.inl (.inl s)), u1, k u u2⟩)
        | _ => cases e
end
/-- x[a][b] = e -/
def sSix2 (i : Nat) (pa pb : PM) (fv : EM) : SM := fun e => (fv e).out fun d e1 => (lstAt e1 i).elim .no fun xs => ((pa e1).bind intD).elim .no fun za => ((pb e1).bind intD).elim .no fun zb =>
  (ixN xs.length za).elim .no fun m => (lstC xs[m]?).elim .no fun ys => (ixN ys.length zb).elim .no fun k => .nx (e1.set i (some (.nd .lst (xs.set m (.nd .lst (ys.set k (.fr d)))))))
theorem s_six2 (i : Nat) {X : Cx} {W : WX} {ks : List Nat} {x : Str} {np sp pos tpos : Pos} {a b e : Expr} {pa pb : PM} {fv : EM} (hv' : DE X W e fv) (ha : DP X a pa) (hb : DP X b pb) (hN : X.N[i]? = some x := by rfl) (hv : Vis X.env.scope x := by first | exact Or.inl rfl | exact Or.inr (Or.inl rfl) | exact Or.inr (Or.inr rfl)) (hd : (x == ("__debug__" : Str)) = false := by decide) (hcd : (x == ("__classdict__" : Str)) = false := by decide)
    (hp : PlainIx a := by exact fun _ _ => rfl)
    (hg : ∀ v, assign (.Subscript (.Subscript (.Name x np) a sp) b tpos) X.env v = (do
      let ov ← holding [v] (eval (.Subscript (.Name x np) a sp) X.env)
      let iv ← holding [v, ov] (eval b X.env)
      standAt tpos
      holding [v, ov, iv] (setItem ov iv v)
      release [v, ov, iv] []) := by intro _; rfl)
    (hs : swapsWithSole [.Subscript (.Subscript (.Name x np) a sp) b tpos] e pos.line X.env = pure false := by rfl) (hw : swappedStores [.Subscript (.Subscript (.Name x np) a sp) b tpos] e X.env = pure none := by rfl)
    (h1 : (assignEach [.Subscript (.Subscript (.Name x np) a sp) b tpos] X.env).map (·.2) = [assign (.Subscript (.Subscript (.Name x np) a sp) b tpos) X.env] := by rfl) : DS X W ks (.Assign [.Subscript (.Subscript (.Name x np) a sp) b tpos] e pos) (sSix2 i pa pb fv) := by
  refine weakS (ps_asg hv' (pg_sub (pe_ix ix_list (pe_var hN hv hd hcd) ha hp) hb set_list hg) hs hw h1) fun D σ H ⟨G, F, env, hk, j, p⟩ => ?_
  refine ⟨G, F, env, j, (PostS.out p).imp fun d F1 H1 s1 ⟨e1, j1, p2⟩ y fy => ?_⟩
  cases he : lstAt e1 i with
  | none => rw [he] at p2; exact p2.elim
  | some xs =>
    cases hza : (pa e1).bind intD with
    | none => rw [he, hza] at p2; exact p2.elim
    | some za =>
      cases hzb : (pb e1).bind intD with
      | none => rw [he, hza, hzb] at p2; exact p2.elim
      | some zb =>
        cases hm : ixN xs.length za with
        | none => rw [he, hza, hzb] at p2; simp only [Option.elim_some, hm] at p2; exact p2.elim
        | some m =>
          cases hy : lstC xs[m]? with
          | none => rw [he, hza, hzb] at p2; simp only [Option.elim_some, hm, hy] at p2; exact p2.elim
          | some ys =>
            cases hk2 : ixN ys.length zb with
            | none => rw [he, hza, hzb] at p2; simp only [Option.elim_some, hm, hy, hk2] at p2; exact p2.elim
            | some k =>
              rw [he, hza, hzb] at p2
              simp only [Option.elim_some, hm, hy, hk2] at p2
              have he := lstAt_some he
              obtain ⟨S, v, g1, g2, _⟩ := j1.row he
              obtain ⟨l, vs, Sf, rfl, q3, q4, q5, q6, q7, q8⟩ := g2.lst
              have hx := lstC_some hy
              have hmv : m < vs.length := by
                have := (List.getElem?_eq_some_iff.mp hx).1
                omega
              have r := q6 m _ _ (List.getElem?_eq_getElem hmv) hx
              obtain ⟨b', ws, Sg, eb, z1, z2, z3, z4, z5, z6⟩ := r.lst
              have evm : vs[m]? = some (.ref b') := by rw [List.getElem?_eq_getElem hmv, eb]
              cases hpa : pa e1 with
              | none => rw [hpa] at hza; cases hza
              | some da =>
                rw [hpa] at hza
                have hza := intD_some hza
                cases hpb : pb e1 with
                | none => rw [hpb] at hzb; cases hzb
                | some db =>
                  rw [hpb] at hzb
                  have hzb := intD_some hzb
                  subst hza hzb
                  refine ⟨_, g1, G, F1, e1, _, j1, hpa, fun w fw => ?_⟩
                  cases fw
                  refine ⟨l, vs, za, .ref b', rfl, rfl, SqL.of q3, ?_, G, F1, e1, _, j1, hpb, fun w2 fw2 => ?_⟩
                  · unfold atI
                    rw [q5, hm]
                    exact evm
                  · cases fw2
                    have hkw : k < ws.length := by
                      rw [z3]
                      exact (ixN_seq hk2).2.1
                    refine ⟨b', ws, zb, k, rfl, rfl, z1, by rw [z3]; exact hk2, p2 F1 σ _ (Same.refl F1) (j1.put he g1 fun S3 w6 => ?_)⟩
                    exact w6.sub_upd q3 evm hx z1 hkw fy
end Ly

set_option Elab.async false
set_option linter.all false
set_option maxRecDepth 100000
set_option maxHeartbeats 4000000
set_option autoImplicit false
namespace Ly
open PySem PySem.Spec L2
/-! ## sorted of alike data, min of alike data -/
abbrev dle (a b : PyData) : Bool := !PySem.W.dataLt b a
def sortD (ds : List PyData) : List PyData := ds.mergeSort dle
def alikeL (ds : List PyData) : Bool := ds.all fun x => ds.all fun y => PySem.W.alike x y
def neT : PyData → Bool
  | .tuple (_ :: _) => true
  | _ => false
def noT : PyData → Bool
  | .none => false
  | .tuple _ => false
  | _ => true
def sortable (ds : List PyData) : Bool := ds.all neT || ds.all noT
theorem alikeL_of {ds : List PyData} (h : alikeL ds = true) : PySem.W.AllAlike ds := fun d hd d' hd' => List.all_eq_true.mp (List.all_eq_true.mp h d hd) d' hd'
theorem sortable_of {ds : List PyData} (h : sortable ds = true) : PySem.W.Sortable ds := by
  unfold sortable at h
  rw [Bool.or_eq_true] at h
  rcases h with h | h
  · refine .inl fun d hd => ?_
    have := List.all_eq_true.mp h d hd
    unfold neT at this
    split at this
    · exact ⟨_, _, rfl⟩
    · cases this
  · refine .inr fun d hd => ?_
    have := List.all_eq_true.mp h d hd
    refine ⟨?_, ?_⟩
    · rintro rfl
      cases this
    · rintro xs rfl
      cases this
theorem dpAll_each {X : Cx} {pins : List (Addr × Obj)} {σ : St} {H : Hp} {s : Shared} (I : Inv X pins σ H s) : ∀ {xs : List V} {ds : List PyData} {us : List Value}, DpAll X.K H xs ds → Vals xs us → PySem.W.EachIs (fun u d => ∃ x, RelV x u ∧ (x, d) ∈ xs.zip ds ∧ ∃ as, Reads s.heap u d as) us ds
  | _, _, _, .nil, .nil => .nil
  | x :: xs, d :: ds, u :: us, .cons h t, .cons r rt => .cons ⟨x, r, by rw [List.zip_cons_cons]; exact List.mem_cons_self, Dp.reads I d x u h r⟩ ((dpAll_each I t rt).mono fun _ _ ⟨y, a, b, c⟩ => ⟨y, a, by rw [List.zip_cons_cons]; exact List.mem_cons_of_mem _ b, c⟩)
/-- sorted(xs), xs of alike data -/
def rSortD (K : PySem.W.Frag) : List V → Hp → VK → Prop := fun vs H Q => ∃ (a : Addr) (xs : List V) (ds : List PyData), vs = [V.ref a] ∧ SqL K H a xs ∧ DpAll K H xs ds ∧ PySem.W.AllAlike ds ∧ PySem.W.Sortable ds ∧ (∀ d ∈ ds, d.depth ≤ 60) ∧
  ∀ (ys : List V) (p : Addr), PySem.W.EachIs (fun y d => (y, d) ∈ xs.zip ds) ys (sortD ds) → H p = none → Q (.ref p) (upd H p (.lst ys))
theorem pick {P : V → PyData → Prop} : ∀ {us : List Value} {ds : List PyData}, PySem.W.EachIs (fun u d => ∃ x, RelV x u ∧ P x d) us ds → ∃ ys, Vals ys us ∧ PySem.W.EachIs P ys ds
  | _, _, .nil => ⟨[], .nil, .nil⟩
  | _, _, .cons ⟨x, h, p⟩ t => by
    obtain ⟨ys, h1, h2⟩ := pick t
    exact ⟨x :: ys, .cons h h1, .cons p h2⟩
theorem call_sortD {X : Cx} (hu : X.A.units + 65 < cLine) : CallR X (.builtin "sorted") (rSortD X.K) := by
  intro pins s σ H vs us Q I r h
  obtain ⟨a, xs, ds, rfl, hs, hd, hal, hk, hdep, q⟩ := h
  obtain ⟨its, rv, hl, hz⟩ := I.list hs
  rw [Vals.ref1 r]
  have e0 := dpAll_each I hd rv
  have hz' : its.length ≤ sizeLine := by rw [← rv.length]; exact hz
  have old : ∀ b o, s.heap.get? b = some o → (PySem.W.sortingHeap (PySem.W.copyHeap s.heap its) (s.heap.objs.size + 1) its).get? b = some o := fun b o e =>
    PySem.W.sortingHeap_old (Nat.ne_of_lt (Nat.lt_succ_of_lt (Heap.lt_size e))) (PySem.W.copyHeap_old e)
  have e1 : PySem.W.EachIs (fun u d => ∃ as, Reads (PySem.W.sortingHeap (PySem.W.copyHeap s.heap its) (s.heap.objs.size + 1) its) u d as) its ds := e0.mono fun u d ⟨_, _, _, as, rr⟩ => ⟨as, PyProof.Rows.Reads.keeps old rr⟩
  have S := PySem.W.SortsAt.data (prog := X.prog) (w := X.w) (A := X.A.in1.in1) (s := { s with heap := PySem.W.sortingHeap (PySem.W.copyHeap s.heap its) (s.heap.objs.size + 1) its }) e1 hal hk (fun d hd' => by
    have := hdep d hd'
    show X.A.units + 1 + 1 + d.depth < cLine
    omega)
  refine PySem.W.sorted_vals hl.isList S hz' ?_
  have e2 := PySem.W.sortVals_each (κ := PySem.W.dataKind (PySem.W.sortingHeap (PySem.W.copyHeap s.heap its) (s.heap.objs.size + 1) its) ds) (rev := false) (bs := ds) (fun d => PySem.W.keyToks d) (e0.mono fun u d ⟨x, h1, h2, _⟩ => (⟨x, h1, h2⟩ : ∃ x, RelV x u ∧ (x, d) ∈ xs.zip ds)) ((PySem.W.each_mem e1).mono fun u d ⟨⟨as, rr⟩, hm⟩ => PySem.W.dataKind_some hal hm rr)
  obtain ⟨ys, y1, y2⟩ := pick e2
  obtain ⟨ep, he'⟩ := PyProof.Rows.sortedAll_at s.heap its (PySem.W.sortVals (PySem.W.dataKind (PySem.W.sortingHeap (PySem.W.copyHeap s.heap its) (s.heap.objs.size + 1) its) ds) false its its).toArray
  have ylen : ys.length ≤ sizeLine := by
    rw [y1.length, PySem.W.sortVals_length false rfl]
    exact hz'
  exact ⟨.ref _, upd H (s.heap.objs.size + 1) (.lst ys), I.laid (t' := s.toks) (fun _ _ => PyProof.Rows.sortedAll_old) (Nat.le_succ _) ⟨ylen, _, ep, y1, he'⟩, rfl, q ys _ y2 (I.hok.fresh (Nat.le_succ _))⟩
theorem fzL_zip {K : PySem.W.Frag} {F : Hp} : ∀ {xs : List V} {ds : List PyData} {y : V} {d : PyData}, FzL K F xs ds → (y, d) ∈ xs.zip ds → Fz K F y d
  | _, _, _, _, .nil, h => by cases h
  | _, _, _, _, .cons h t, hm => by
    rw [List.zip_cons_cons] at hm
    rcases List.mem_cons.mp hm with e | hm
    · cases e
      exact h
    · exact fzL_zip t hm
theorem fzL_each {K : PySem.W.Frag} {F : Hp} {xs : List V} {ds : List PyData} (f : FzL K F xs ds) : ∀ {ys : List V} {es : List PyData}, PySem.W.EachIs (fun y d => (y, d) ∈ xs.zip ds) ys es → FzL K F ys es
  | _, _, .nil => .nil
  | _, _, .cons h t => .cons (fzL_zip f h) (fzL_each f t)
def gSortX : List PyData → Option PyData
  | [.list ds] => match gSort1 ds with
    | some c => some c
    | none => if SeqAt.shaped (.list ds) && alikeL ds && sortable ds && ds.all (fun d => decide (d.depth ≤ 60)) then some (.list (sortD ds)) else none
  | _ => none
theorem n_sortX {K : PySem.W.Frag} : SndL K (fun vs H Q => rSortA K vs H Q ∨ rSortD K vs H Q) gSortX := by
  intro F H xs as c Q s f hg q
  cases f with
  | nil => cases hg
  | @cons v vs d ds fd ft =>
   cases ft with
   | cons _ _ => cases d <;> cases hg
   | nil =>
    cases fd with
    | @lst a vs ds h1 t1 =>
      have hg : (match gSort1 ds with
        | some c => some c
        | none => if SeqAt.shaped (.list ds) && alikeL ds && sortable ds && ds.all (fun d => decide (d.depth ≤ 60)) then some (PyData.list (sortD ds)) else none) = some c := hg
      cases e : gSort1 ds with
      | some c' =>
        rw [e] at hg
        cases hg
        exact .inl (n_sort F H [.ref a] [.list ds] c Q s (.cons (.lst h1 t1) .nil) e q)
      | none =>
        rw [e] at hg
        have hg : (if SeqAt.shaped (.list ds) && alikeL ds && sortable ds && ds.all (fun d => decide (d.depth ≤ 60)) then some (PyData.list (sortD ds)) else none) = some c := hg
        by_cases h : (SeqAt.shaped (.list ds) && alikeL ds && sortable ds && ds.all (fun d => decide (d.depth ≤ 60))) = true
        · rw [if_pos h] at hg
          cases hg
          simp only [Bool.and_eq_true] at h
          obtain ⟨⟨⟨a1, a2⟩, a3⟩, a4⟩ := h
          have lay := shaped_lay a1
          rw [PyData.canLay0] at lay
          refine .inr ⟨a, vs, ds, rfl, s.seq h1, FzL.dp (t1.mono s) lay, alikeL_of a2, sortable_of a3, fun d hd => of_decide_eq_true (List.all_eq_true.mp a4 d hd), fun ys p hy hp => ?_⟩
          exact q _ _ _ (.one hp) (.lst (.inl (.inl upd_same)) (FzL.mono (same_new (s.free hp)) (fzL_each t1 hy)))
        · rw [if_neg h] at hg; cases hg
    | _ => cases hg
theorem call_sortX {X : Cx} (hu : X.A.units + 65 < cLine) : CallR X (.builtin "sorted") (fun vs H Q => rSortA X.K vs H Q ∨ rSortD X.K vs H Q) := CallR.or call_sort (call_sortD hu)
theorem alikeL_mk {ds : List PyData} (h : ∀ x ∈ ds, ∀ y ∈ ds, PySem.W.alike x y = true) : alikeL ds = true := List.all_eq_true.mpr fun x hx => List.all_eq_true.mpr fun y hy => h x hx y hy
theorem gSortX_D {ds : List PyData} (h0 : gSort1 ds = none) (h1 : SeqAt.shaped (.list ds) = true) (h2 : alikeL ds = true) (h3 : sortable ds = true) (h4 : ∀ d ∈ ds, d.depth ≤ 60) : gSortX [.list ds] = some (.list (sortD ds)) := by
  show (match gSort1 ds with
        | some c => some c
        | none => if SeqAt.shaped (.list ds) && alikeL ds && sortable ds && ds.all (fun d => decide (d.depth ≤ 60)) then some (PyData.list (sortD ds)) else none) = _
  rw [h0]
  have e : (SeqAt.shaped (.list ds) && alikeL ds && sortable ds && ds.all (fun d => decide (d.depth ≤ 60))) = true := by
    rw [h1, h2, h3, List.all_eq_true.mpr fun d hd => decide_eq_true (h4 d hd)]
    rfl
  show (if _ then some (PyData.list (sortD ds)) else none) = _
  rw [if_pos e]
theorem gSortX_s (ys : List Str) : gSortX [.list (ys.map .str)] = some (.list ((srt ltS ys).map .str)) := by
  show (match gSort1 (ys.map .str) with
        | some c => some c
        | none => _) = _
  rw [gSort1_s]
/-! x += e: ints and texts -/
def gAddN : PyData → PyData → Option PyData
  | .int i, .int j => some (.int (i + j))
  | .str x, .str y => if x.length + y.length ≤ sz then some (.str (x ++ y)) else none
  | _, _ => none
theorem gAddN_i (i j : Int) : gAddN (.int i) (.int j) = some (.int (i + j)) := rfl
theorem n_addN {K : PySem.W.Frag} : Snd2 K (fun x y H Q => rI0 (fun i j => .int (i + j)) x y H Q ∨ ∃ i j, x = .str i ∧ y = .str j ∧ i.length + j.length ≤ sizeLine ∧ Q (.str (i ++ j)) H) gAddN := by
  intro F H x y a b c Q s fx fy hg q
  cases fx with
  | int i =>
    cases fy with
    | int k => cases hg; exact .inl ⟨i, k, rfl, rfl, q _ F H .refl (.int _)⟩
    | _ => cases hg
  | str x =>
    cases fy with
    | str y =>
      have hg : (if x.length + y.length ≤ sz then some (PyData.str (x ++ y)) else none) = some c := hg
      by_cases h : x.length + y.length ≤ sz
      · rw [if_pos h] at hg
        cases hg
        exact .inr ⟨x, y, rfl, rfl, by rw [sz_eq]; exact h, q _ F H .refl (.str _)⟩
      · rw [if_neg h] at hg
        cases hg
    | _ => cases hg
  | _ => cases hg
theorem o_addN {X : Cx} : OpR X (inplaceOp .Add) (fun x y H Q => rI0 (fun i j => .int (i + j)) x y H Q ∨ ∃ i j, x = .str i ∧ y = .str j ∧ i.length + j.length ≤ sizeLine ∧ Q (.str (i ++ j)) H) := iop_add.or iop_add_str
end Ly

set_option Elab.async false
set_option linter.all false
set_option maxRecDepth 100000
set_option maxHeartbeats 4000000
set_option autoImplicit false
namespace Ly
open PySem PySem.Spec L2
section
variable {e : Ev} {i : Nat} {fk fv f b : EM} {l : LM} {pa pb : PM} {n : NM} {it : LM} {u : UM} {t : TM} {own : List Nat} {g : PyData → PyData → Option PyData}
theorem eDgo_a : eDgo i fk e = e[i]?.join.elim .no fun _ => (fk e).bind fun k e1 => e1[i]?.join.elim .no fun o => lift ((dgetO o k).bind frO1) e1 := rfl
theorem eDino_a (neg : Bool) : eDino neg fk i e = (fk e).bind fun k e1 => e1[i]?.join.elim .no fun o => lift ((dgetO o k).map fun r => .bool (if neg then !r.isSome else r.isSome)) e1 := rfl
theorem sDput_a : sDput i fk fv e = (fv e).out fun d e1 => e1[i]?.join.elim .no fun _ => (fk e1).out fun k e2 => e2[i]?.join.elim .no fun o => (dputO o k d).elim .no fun o' => .nx (e2.set i (some o')) := rfl
theorem sDaug_a : sDaug i g fk fv e = e[i]?.join.elim .no fun _ => (fk e).out fun k e1 => e1[i]?.join.elim .no fun o => ((dgetO o k).bind frO1).elim .no fun x => (fv e1).out fun y e2 =>
  (lift (g x y) e2).out fun z e3 => e3[i]?.join.elim .no fun o2 => (dputO o2 k z).elim .no fun o' => .nx (e3.set i (some o')) := rfl
theorem sDnew_t : sDnew i true e = .nx (e.set i (some (mkT []))) := rfl
theorem sDnew_f : sDnew i false e = .nx (e.set i (some (mkK []))) := rfl
theorem sStN_a : sStN i n e = (n e).out fun o e1 => .nx (e1.set i (some o)) := rfl
theorem nE_a : nE f e = (f e).bind fun d e1 => .ok (.fr d) e1 := rfl
theorem nL_a : nL l e = (l e).bind fun ds e1 => if ds.length ≤ sz then .ok (.nd .lst (ds.map .fr)) e1 else .no := rfl
theorem nRep_a : nRep l b e = (l e).bind fun ds e1 => if ds.length ≤ sz then (b e1).bind fun k e2 => (intD k).elim .no fun z => if repB ds.length z then .ok (.nd .lst (((List.replicate z.toNat ds).flatten).map .fr)) e2 else .no else .no := rfl
theorem eRep_a : eRep l b e = (l e).bind fun ds e1 => if ds.length ≤ sz then (b e1).bind fun k e2 => (intD k).elim .no fun z => if repB ds.length z then .ok (.list ((List.replicate z.toNat ds).flatten)) e2 else .no else .no := rfl
theorem nComp_a : nComp it u t n own e = (it e).bind fun ds e1 => if ds.length ≤ sz ∧ own.all (fun i => decide (i < e1.length)) = true then (compN u t n own ds (wipeE e1 own)).bind fun ys e2 => .ok (.nd .lst ys) (restE own e1 e2) else .no := rfl
theorem sSix2_a : sSix2 i pa pb fv e = (fv e).out fun d e1 => (lstAt e1 i).elim .no fun xs => ((pa e1).bind intD).elim .no fun za => ((pb e1).bind intD).elim .no fun zb =>
  (ixN xs.length za).elim .no fun m => (lstC xs[m]?).elim .no fun ys => (ixN ys.length zb).elim .no fun k => .nx (e1.set i (some (.nd .lst (xs.set m (.nd .lst (ys.set k (.fr d))))))) := rfl
end
section
variable {κ : Type} [DecidableEq κ] {β : Type}
theorem valP_map (k j : κ) (y : β) : ∀ ps : List (κ × β), valP (ps.map fun p => if p.1 = k then (p.1, y) else p) j = (valP ps j).map fun x => if j = k then y else x
  | [] => rfl
  | p :: ps => by
    rw [List.map_cons]
    have h1 : (if p.1 = k then (p.1, y) else p).1 = p.1 := by
      by_cases c : p.1 = k
      · rw [if_pos c]
      · rw [if_neg c]
    by_cases q : p.1 = j
    · rw [valP_pos (h1.trans q), valP_pos q]
      by_cases c : p.1 = k
      · rw [if_pos c]
        show some y = some (if j = k then y else p.2)
        rw [if_pos (q.symm.trans c)]
      · rw [if_neg c]
        show some p.2 = some (if j = k then y else p.2)
        rw [if_neg (fun z => c (q.trans z))]
    · rw [valP_neg (fun z => q (h1.symm.trans z)), valP_neg q, valP_map k j y ps]
theorem valP_snoc (k j : κ) (y : β) : ∀ ps : List (κ × β), (ps.any fun p => decide (p.1 = k)) = false → valP (ps ++ [(k, y)]) j = if j = k then some y else valP ps j
  | [], _ => by
    by_cases q : j = k
    · rw [if_pos q]
      exact valP_pos (p := (k, y)) q.symm
    · rw [if_neg q]
      exact valP_neg (p := (k, y)) fun z => q z.symm
  | p :: ps, h => by
    rw [List.any_cons, Bool.or_eq_false_iff] at h
    have hp : ¬ p.1 = k := of_decide_eq_false h.1
    rw [List.cons_append]
    by_cases q : p.1 = j
    · rw [valP_pos q, valP_pos q, if_neg fun z => hp (q.trans z)]
    · rw [valP_neg q, valP_neg q, valP_snoc k j y ps h.2]
theorem valP_isSome (k : κ) : ∀ ps : List (κ × β), (valP ps k).isSome = ps.any fun p => decide (p.1 = k)
  | [] => rfl
  | p :: ps => by
    rw [List.any_cons]
    by_cases q : p.1 = k
    · rw [valP_pos q, decide_eq_true q]
      rfl
    · rw [valP_neg q, decide_eq_false q, valP_isSome k ps]
      rfl
theorem valP_put (ps : List (κ × β)) (k j : κ) (y : β) : valP (putP ps k y) j = if j = k then some y else valP ps j := by
  unfold putP
  by_cases c : (ps.any fun p => decide (p.1 = k)) = true
  · rw [if_pos c, valP_map]
    have hs := valP_isSome k ps
    rw [c] at hs
    by_cases q : j = k
    · rw [if_pos q]
      subst q
      cases h : valP ps j with
      | none => rw [h] at hs; cases hs
      | some x =>
        show some (if j = j then y else x) = some y
        rw [if_pos rfl]
    · rw [if_neg q]
      cases h : valP ps j with
      | none => rfl
      | some x =>
        show some (if j = k then y else x) = some x
        rw [if_neg q]
  · rw [if_neg c]
    exact valP_snoc k j y ps (Bool.eq_false_iff.mpr c)
theorem putP_len (ps : List (κ × β)) (k : κ) (y : β) : (putP ps k y).length ≤ ps.length + 1 := by
  unfold putP
  split
  · rw [List.length_map]
    omega
  · rw [List.length_append]
    exact Nat.le_refl _
end
/-- a dict with tuple keys, its items data -/
abbrev dT (D : List (List Key × PyData)) : O := mkT (frP D)
abbrev dK (D : List (Key × PyData)) : O := mkK (frP D)
theorem dget_dT (D : List (List Key × PyData)) {d : PyData} {k : List Key} (h : keysD d = some k) : dgetO (dT D) d = some ((valP D k).map .fr) := by
  rw [dget_T _ h, valP_fr]
theorem dput_dT (D : List (List Key × PyData)) {d : PyData} {k : List Key} (h : keysD d = some k) (x : PyData) (hl : D.length < sz) : dputO (dT D) d x = some (dT (putP D k x)) := by
  rw [dput_T _ h x (by unfold frP; rw [List.length_map]; exact hl), putP_fr]
theorem dget_dK (D : List (Key × PyData)) {d : PyData} {k : Key} (h : keyD d = some k) : dgetO (dK D) d = some ((valP D k).map .fr) := by
  rw [dget_K _ h, valP_fr]
theorem dput_dK (D : List (Key × PyData)) {d : PyData} {k : Key} (h : keyD d = some k) (x : PyData) (hl : D.length < sz) : dputO (dK D) d x = some (dK (putP D k x)) := by
  rw [dput_K _ h x (by unfold frP; rw [List.length_map]; exact hl), putP_fr]
abbrev k2 (r c : Nat) : List Key := [.inl (r : Int), .inl (c : Int)]
theorem k2_inj {r c r' c' : Nat} : k2 r c = k2 r' c' ↔ r = r' ∧ c = c' := by
  constructor
  · intro h
    have h1 := List.cons.inj h
    have h2 := List.cons.inj h1.2
    have a : (r : Int) = r' := Sum.inl.inj h1.1
    have b : (c : Int) = c' := Sum.inl.inj h2.1
    omega
  · rintro ⟨rfl, rfl⟩
    rfl
theorem k2_D (r c : Nat) : keysD (.tuple [.int (r : Nat), .int (c : Nat)]) = some (k2 r c) := rfl
theorem frO1_map (o : Option PyData) : (some (o.map O.fr)).bind frO1 = o := by cases o <;> rfl
theorem frO1_f (d : PyData) : frO1 (some (.fr d)) = some d := rfl
theorem isSome_map {α β : Type} (o : Option α) (f : α → β) : (o.map f).isSome = o.isSome := by cases o <;> rfl
end Ly

set_option Elab.async false
set_option linter.all false
set_option maxRecDepth 100000
set_option maxHeartbeats 4000000
set_option autoImplicit false
namespace Ly
open PySem PySem.Spec L2
/-! sorted of alike data: what two lists of the same things give -/
section
variable {α β : Type} [DecidableEq α] [PySem.W.DatumOrd α] [DecidableEq β] [PySem.W.DatumOrd β]
theorem datum_anti {a b : α} (h1 : PySem.W.dataLt (PySem.W.Datum.toD a) (PySem.W.Datum.toD b) = false) (h2 : PySem.W.dataLt (PySem.W.Datum.toD b) (PySem.W.Datum.toD a) = false) : a = b := by
  have e := (PyProof.Rows.listOrd PyProof.Rows.itemOrd).total _ _ h1 h2
  have al := PySem.W.DatumOrd.alike a b
  obtain ⟨t1, t2⟩ := PySem.W.toks_eqv _ _ al
  cases q : PyData.eqv (PySem.W.Datum.toD a) (PySem.W.Datum.toD b) with
  | true =>
    rw [PySem.W.Datum.eqv] at q
    exact of_decide_eq_true q
  | false =>
    have := t2 q [] [.inl 0]
    rw [e, PySem.W.lex_pre, PyProof.Rows.lex_irrefl] at this
    cases this
theorem dle_trans (a b c : PyData) (h1 : dle a b = true) (h2 : dle b c = true) : dle a c = true := by
  have h1' : (!PySem.W.dataLt b a) = true := h1
  have h2' : (!PySem.W.dataLt c b) = true := h2
  rw [Bool.not_eq_true'] at h1' h2'
  show (!PySem.W.dataLt c a) = true
  rw [show PySem.W.dataLt c a = false from PyProof.Rows.KeyOrd.kle_trans (O := PyProof.Rows.listOrd PyProof.Rows.itemOrd) (a := PySem.W.keyToks a) (b := PySem.W.keyToks b) (c := PySem.W.keyToks c) h1' h2']
  rfl
theorem dle_total (a b : PyData) : (dle a b || dle b a) = true := by
  show (!PySem.W.dataLt b a || !PySem.W.dataLt a b) = true
  cases h : PySem.W.dataLt b a with
  | true =>
    rw [show PySem.W.dataLt a b = false from PyProof.Rows.KeyOrd.klt_asymm (O := PyProof.Rows.listOrd PyProof.Rows.itemOrd) (a := PySem.W.keyToks b) (b := PySem.W.keyToks a) h]
    rfl
  | false => rfl
theorem sort_perm {xs ys : List α} (h : xs.Perm ys) : sortD (xs.map PySem.W.Datum.toD) = sortD (ys.map PySem.W.Datum.toD) := by
  have p1 := List.mergeSort_perm (xs.map PySem.W.Datum.toD) dle
  have p2 := List.mergeSort_perm (ys.map PySem.W.Datum.toD) dle
  refine List.Perm.eq_of_pairwise (le := fun a b => dle a b = true) (fun a b ha hb h1 h2 => ?_) (List.pairwise_mergeSort dle_trans dle_total _) (List.pairwise_mergeSort dle_trans dle_total _) (p1.trans ((h.map _).trans p2.symm))
  obtain ⟨x, _, rfl⟩ := List.mem_map.mp (p1.mem_iff.mp ha)
  obtain ⟨y, _, rfl⟩ := List.mem_map.mp (p2.mem_iff.mp hb)
  have h1 : (!PySem.W.dataLt (PySem.W.Datum.toD y) (PySem.W.Datum.toD x)) = true := h1
  have h2 : (!PySem.W.dataLt (PySem.W.Datum.toD x) (PySem.W.Datum.toD y)) = true := h2
  rw [Bool.not_eq_true'] at h1 h2
  exact congrArg _ (datum_anti h2 h1)
theorem gSortX_P {xs : List (α × β)} {n : Nat} (hd : ∀ x ∈ xs, Dpt n (PySem.W.Datum.toD x)) (hn : n ≤ 60) : gSortX [.list (xs.map PySem.W.Datum.toD)] = some (.list (sortD (xs.map PySem.W.Datum.toD))) := by
  have hdl : ∀ d ∈ xs.map PySem.W.Datum.toD, Dpt n d := fun d h => by
    obtain ⟨x, hx, rfl⟩ := List.mem_map.mp h
    exact hd x hx
  cases xs with
  | nil =>
    have e : sortD ([] : List PyData) = [] := List.mergeSort_nil
    show gSortX [.list (([] : List Str).map .str)] = some (.list (sortD []))
    rw [e, gSortX_s]
    rfl
  | cons x xs =>
    refine gSortX_D rfl ((dpt_list hdl).shaped (by omega)) (alikeL_mk fun a ha b hb => ?_) ?_ fun d h => ?_
    · obtain ⟨y, _, rfl⟩ := List.mem_map.mp ha
      obtain ⟨z, _, rfl⟩ := List.mem_map.mp hb
      exact PySem.W.DatumOrd.alike y z
    · unfold sortable
      rw [List.all_eq_true.mpr fun d h => ?_, Bool.true_or]
      obtain ⟨y, _, rfl⟩ := List.mem_map.mp h
      rfl
    · have := (hdl d h).2
      omega
end
/-! lists made row by row and column by column -/
theorem flatMap_two {α β : Type} (a b : α → List β) : ∀ l : List α, (l.flatMap fun x => a x ++ b x).Perm (l.flatMap a ++ l.flatMap b)
  | [] => .refl _
  | x :: l => by
    have ih := flatMap_two a b l
    rw [List.flatMap_cons, List.flatMap_cons, List.flatMap_cons]
    refine (List.Perm.append_left _ ih).trans ?_
    rw [List.append_assoc, List.append_assoc]
    refine List.Perm.append_left _ ?_
    rw [← List.append_assoc, ← List.append_assoc]
    exact List.Perm.append_right _ List.perm_append_comm
theorem flatMap_nil' {α β : Type} : ∀ l : List α, (l.flatMap fun _ => ([] : List β)) = []
  | [] => rfl
  | x :: l => by rw [List.flatMap_cons, flatMap_nil' l]; rfl
theorem flatMap_comm {α β γ : Type} (f : α → β → List γ) (m : List β) : ∀ l : List α, (l.flatMap fun x => m.flatMap fun y => f x y).Perm (m.flatMap fun y => l.flatMap fun x => f x y)
  | [] => by
    show ([] : List γ).Perm (m.flatMap fun _ => [])
    rw [flatMap_nil']
  | x :: l => by
    rw [List.flatMap_cons]
    refine (List.Perm.append_left _ (flatMap_comm f m l)).trans ?_
    exact (flatMap_two (f x) (fun y => l.flatMap fun x => f x y) m).symm
theorem flatMap_perm {α β : Type} {a b : α → List β} : ∀ {l : List α}, (∀ x ∈ l, (a x).Perm (b x)) → (l.flatMap a).Perm (l.flatMap b)
  | [], _ => .refl _
  | x :: l, h => by
    rw [List.flatMap_cons, List.flatMap_cons]
    exact (h x List.mem_cons_self).append (flatMap_perm fun y hy => h y (List.mem_cons_of_mem _ hy))
end Ly

set_option Elab.async false
set_option linter.all false
set_option maxRecDepth 100000
set_option maxHeartbeats 4000000
set_option autoImplicit false
namespace Ly
open PySem PySem.Spec L2
/-! ## comprehensions of two sources -/
def compL2 (u : UM) (t : TM) (it1 : LM) (u1 : UM) (t1 : TM) (f : EM) (own own1 : List Nat) : List PyData → Ev → Res (List PyData)
  | [], e => .ok [] e
  | d :: ds, e => match u d with
    | none => .no
    | some as => (t (setEv e as)).nox.bind fun b e2 => if b then (it1 e2).nox.bind fun ds1 e3 => if ds1.length ≤ sz then (compL u1 t1 f own1 ds1 (wipeE e3 own1)).bind fun ys e4 => (compL2 u t it1 u1 t1 f own own1 ds (wipeE e4 own)).bind fun zs e5 => .ok (ys ++ zs) e5 else .no
      else compL2 u t it1 u1 t1 f own own1 ds (wipeE e2 own)
def fin2 (own : List Nat) (e1 : Ev) (l : List PyData) (e2 : Ev) : Res PyData := if l.length ≤ sz then .ok (.list l) (restE own e1 e2) else .no
def eComp2 (it : LM) (u : UM) (t : TM) (it1 : LM) (u1 : UM) (t1 : TM) (f : EM) (own own1 : List Nat) : EM := fun e => (it e).bind fun ds e1 => if ds.length ≤ sz then (compL2 u t it1 u1 t1 f own own1 ds (wipeE e1 own)).bind fun l e2 => fin2 own e1 l e2 else .no
theorem bind_ne {α β : Type} {r : Res α} {k : α → Ev → Res β} (h1 : ∀ c e, r ≠ .exc c e) (h2 : ∀ a e c e', k a e ≠ .exc c e') (c : Str) (e : Ev) : r.bind k ≠ .exc c e := by
  cases r with
  | ok a e1 => exact h2 a e1 c e
  | exc c1 e1 => exact absurd rfl (h1 c1 e1)
  | no => exact fun z => by cases z
theorem nox_ne {α : Type} (r : Res α) (c : Str) (e : Ev) : r.nox ≠ .exc c e := by
  cases r <;> exact fun z => by cases z
theorem compL_ne {u : UM} {t : TM} {f : EM} {own : List Nat} : ∀ (ds : List PyData) (e : Ev) (c : Str) (e' : Ev), compL u t f own ds e ≠ .exc c e'
  | [], e, c, e' => fun z => by cases z
  | d :: ds, e, c, e' => by
    unfold compL
    cases u d with
    | none => exact fun z => by cases z
    | some as =>
      refine bind_ne (nox_ne _) (fun b e2 c e' => ?_) c e'
      cases b with
      | true => exact bind_ne (nox_ne _) (fun y e3 c e' => bind_ne (compL_ne ds _) (fun ys e4 c e' => fun z => by cases z) c e') c e'
      | false => exact compL_ne ds _ c e'
theorem compL2_ne {u : UM} {t : TM} {it1 : LM} {u1 : UM} {t1 : TM} {f : EM} {own own1 : List Nat} : ∀ (ds : List PyData) (e : Ev) (c : Str) (e' : Ev), compL2 u t it1 u1 t1 f own own1 ds e ≠ .exc c e'
  | [], e, c, e' => fun z => by cases z
  | d :: ds, e, c, e' => by
    unfold compL2
    cases u d with
    | none => exact fun z => by cases z
    | some as =>
      refine bind_ne (nox_ne _) (fun b e2 c e' => ?_) c e'
      cases b with
      | true =>
        refine bind_ne (nox_ne _) (fun ds1 e3 c e' => ?_) c e'
        show (if ds1.length ≤ sz then _ else _) ≠ _
        by_cases h : ds1.length ≤ sz
        · rw [if_pos h]
          exact bind_ne (compL_ne _ _) (fun ys e4 c e' => bind_ne (compL2_ne ds _) (fun zs e5 c e' => fun z => by cases z) c e') c e'
        · rw [if_neg h]
          exact fun z => by cases z
      | false => exact compL2_ne ds _ c e'
theorem wipe_wipe {σ2 σ : St} {own own1 : List Nat} (h : wipe σ2 own = wipe σ own) (h1 : ∀ i ∈ own1, i ∈ own) : wipe (wipe σ2 own1) own = wipe σ own := by
  rw [← h]
  refine List.ext_getElem? fun k => ?_
  rw [wipe_get, wipe_get, wipe_length]
  by_cases hk : k ∈ own ∧ k < σ2.length
  · rw [if_pos hk, wipe_get, if_pos hk]
  · rw [if_neg hk, wipe_get, if_neg hk, if_neg fun z => hk ⟨h1 k z.1, z.2⟩]
section
variable {X : Cx} {W : WX} {pos : Pos}
theorem growJ {K : PySem.W.Frag} {mg : MG} {G : Gd} : ∀ {F a b c : Hp} {env : Ev} {σ : St}, Grow F a b c → J0 K mg G F env σ a → Same F b ∧ J0 K mg G b env σ c := by
  intro F a b c env σ g
  induction g with
  | refl => exact fun j => ⟨Same.refl _, j⟩
  | step g hp ih =>
    intro j
    obtain ⟨s, j1⟩ := ih j
    exact ⟨s.trans (same_new (j1.free hp).1), j1.newF hp _⟩
theorem canComp2 {it it1 : LM} {u u1 : UM} {t t1 : TM} {f : EM} {own own1 : List Nat} (hu : ∀ d as, u d = some as → ∀ i ∈ as.map (·.1), i ∈ own) (hu1 : ∀ d as, u1 d = some as → ∀ i ∈ as.map (·.1), i ∈ own1) (hoo : ∀ i ∈ own1, i ∈ own) (σ : St) (H : Hp) (Q : VK) (h : canE X W (eComp2 it u t it1 u1 t1 f own own1) σ H Q) :
    tLc2 (canI X W it) (canG X.K u) (canT X WF t) (canI X WF it1) (canG X.K u1) (canT X WF t1) (canE X WF f) own own1 σ H Q := by
  obtain ⟨G, F, env, j, p⟩ := h
  refine ⟨G, F, env, j, (PostR.bind p).imp fun ds F1 H1 s1 ⟨e1, j1, p2⟩ T w D hD => ?_⟩
  by_cases hsz : ds.length ≤ sz
  case neg =>
    rw [if_neg hsz] at p2
    exact p2.elim
  rw [if_pos hsz] at p2
  have j2 := (j1.j0.wipe own).newO hD (.lst []) (v := .ref D) (o := .nd .lst (([] : List PyData).map .fr)) (rep_new (ds := []) .nil)
  refine ⟨fun i m H' => ∃ F' env' acc, Same F1 F' ∧ J0 X.K X.mg G F' (env' ++ [some (.nd .lst (acc.map .fr))]) (wipe σ own ++ [some (.ref D)]) H' ∧ i + m = ds.length ∧
    PostR X W G F1 σ (fun d F' H' => ∀ v, Fz X.K F' v d → Q v H') ((compL2 u t it1 u1 t1 f own own1 (ds.drop i) env').bind fun ys e2 => fin2 own e1 (acc ++ ys) e2),
    ⟨ds.length, F1, wipeE e1 own, [], Same.refl F1, j2, by omega, p2⟩, ?_⟩
  rintro i m H' ⟨F', env', acc, s', j', him, q⟩
  obtain ⟨wg, ws⟩ := w F' H' s' j'.sub i
  by_cases hlt : i < ds.length
  · obtain ⟨go, yld⟩ := wg _ (List.getElem?_eq_getElem hlt)
    rw [List.drop_eq_getElem_cons hlt] at q
    unfold compL2 at q
    refine .inr ⟨go, fun H2 => ∃ F2 env2 acc2, Same F1 F2 ∧ J0 X.K X.mg G F2 (env2 ++ [some (.nd .lst (acc2.map .fr))]) (wipe σ own ++ [some (.ref D)]) H2 ∧
      PostR X W G F1 σ (fun d F' H' => ∀ v, Fz X.K F' v d → Q v H') ((compL2 u t it1 u1 t1 f own own1 (ds.drop (i + 1)) env2).bind fun ys e2 => fin2 own e1 (acc2 ++ ys) e2),
      fun H2 ⟨F2, env2, acc2, a1, a2, a4⟩ => ⟨m - 1, by omega, F2, env2, acc2, a1, a2, by omega, a4⟩, fun x H'' y => ?_⟩
    obtain ⟨F'', gr, fx⟩ := yld x H'' y
    obtain ⟨s'', j''⟩ := growJ gr j'
    cases hu' : u ds[i] with
    | none => simp only [hu'] at q; exact q.elim
    | some as =>
      simp only [hu'] at q
      refine ⟨F'', ds[i], as, j''.sub, fx, hu', fun vs fvs => ⟨wipe_setAll (hu _ _ hu'), ?_⟩⟩
      obtain ⟨G', hio, jp, back⟩ := j''.protect
      have io0 : ∀ {σ : St}, ∀ p ∈ G'.io, σ[p.1]? = some (some p.2) := fun p hp => by rw [hio] at hp; cases hp
      have j3 := jp.setAll fvs
      refine ⟨G', F'', _, ⟨j3, io0⟩, ?_⟩
      cases ht : t (setEv env' as) with
      | no => rw [ht] at q; exact q.elim
      | exc c e => rw [ht] at q; exact q.elim
      | ok b e2 =>
        rw [ht] at q
        intro F2 H2 s2 j4
        have wl : wipe (setAll (wipe σ own) (as.map (·.1)) vs) own = wipe σ own := wipe_setAll (hu _ _ hu')
        cases b with
        | false =>
          refine iteF ?_
          have j5 := j4.j0.wipe own
          rw [wl] at j5
          exact ⟨F2, wipeE e2 own, acc, s'.trans (s''.trans s2), back F2 _ _ H2 s2 rfl j5, q⟩
        | true =>
          refine iteT ?_
          have q' : PostR X W G F1 σ (fun d F' H' => ∀ v, Fz X.K F' v d → Q v H') (((it1 e2).nox.bind fun ds1 e3 => if ds1.length ≤ sz then (compL u1 t1 f own1 ds1 (wipeE e3 own1)).bind fun ys e4 => (compL2 u t it1 u1 t1 f own own1 (ds.drop (i + 1)) (wipeE e4 own)).bind fun zs e5 => .ok (ys ++ zs) e5 else .no).bind fun ys e2 => fin2 own e1 (acc ++ ys) e2) := q
          refine ⟨G', F2, e2, j4, ?_⟩
          cases hi1 : it1 e2 with
          | no => rw [hi1] at q'; exact q'.elim
          | exc c e => rw [hi1] at q'; exact q'.elim
          | ok ds1 e3 =>
            rw [hi1] at q'
            intro F3 H3 s3 j6 T1 w1
            by_cases hsz1 : ds1.length ≤ sz
            case neg =>
              have q' : PostR X W G F1 σ (fun d F' H' => ∀ v, Fz X.K F' v d → Q v H') ((if ds1.length ≤ sz then (compL u1 t1 f own1 ds1 (wipeE e3 own1)).bind fun ys e4 => (compL2 u t it1 u1 t1 f own own1 (ds.drop (i + 1)) (wipeE e4 own)).bind fun zs e5 => .ok (ys ++ zs) e5 else .no).bind fun ys e2 => fin2 own e1 (acc ++ ys) e2) := q'
              rw [if_neg hsz1] at q'
              exact q'.elim
            have q' : PostR X W G F1 σ (fun d F' H' => ∀ v, Fz X.K F' v d → Q v H') ((if ds1.length ≤ sz then (compL u1 t1 f own1 ds1 (wipeE e3 own1)).bind fun ys e4 => (compL2 u t it1 u1 t1 f own own1 (ds.drop (i + 1)) (wipeE e4 own)).bind fun zs e5 => .ok (ys ++ zs) e5 else .no).bind fun ys e2 => fin2 own e1 (acc ++ ys) e2) := q'
            rw [if_pos hsz1] at q'
            generalize hσ2 : setAll (wipe σ own) (as.map (·.1)) vs = σ2 at j6 wl ⊢
            have j7 := j6.j0.wipe own1
            have hl7 : (wipe σ2 own1).length = (wipe σ own).length := by rw [wipe_length, ← wl, wipe_length]
            have j8 := back F3 _ _ H3 (s2.trans s3) hl7 j7
            -- the rest of the work, from a turn of the inner loop on
            refine ⟨fun jj k H' => ∃ F' env' acc', Same F3 F' ∧ J0 X.K X.mg G F' (env' ++ [some (.nd .lst (acc'.map .fr))]) (wipe σ2 own1 ++ [some (.ref D)]) H' ∧ jj + k = ds1.length ∧
              PostR X W G F1 σ (fun d F' H' => ∀ v, Fz X.K F' v d → Q v H') ((compL u1 t1 f own1 (ds1.drop jj) env').bind fun ys e4 => (compL2 u t it1 u1 t1 f own own1 (ds.drop (i + 1)) (wipeE e4 own)).bind fun zs e5 => fin2 own e1 (acc' ++ (ys ++ zs)) e5),
              ⟨ds1.length, F3, wipeE e3 own1, acc, Same.refl F3, j8, by omega, ?_⟩, ?_⟩
            · rw [Res.bind_bind] at q'
              have e : (fun (ys : List PyData) (e4 : Ev) => ((compL2 u t it1 u1 t1 f own own1 (ds.drop (i + 1)) (wipeE e4 own)).bind fun zs e5 => (Res.ok (ys ++ zs) e5 : Res (List PyData))).bind fun ys e2 => fin2 own e1 (acc ++ ys) e2) = fun ys e4 => (compL2 u t it1 u1 t1 f own own1 (ds.drop (i + 1)) (wipeE e4 own)).bind fun zs e5 => fin2 own e1 (acc ++ (ys ++ zs)) e5 := by
                funext ys e4
                rw [Res.bind_bind]
                rfl
              rw [e] at q'
              exact q'
            rintro jj k H8 ⟨F8, env8, acc8, s8, j8', hjk, q8⟩
            have sF : Same F1 F3 := s'.trans (s''.trans (s2.trans s3))
            obtain ⟨wg1, ws1⟩ := w1 F8 H8 s8 j8'.sub jj
            by_cases hlt1 : jj < ds1.length
            · obtain ⟨go1, yld1⟩ := wg1 _ (List.getElem?_eq_getElem hlt1)
              rw [List.drop_eq_getElem_cons hlt1] at q8
              unfold compL at q8
              refine .inr ⟨go1, fun H9 => ∃ F9 env9 acc9, Same F3 F9 ∧ J0 X.K X.mg G F9 (env9 ++ [some (.nd .lst (acc9.map .fr))]) (wipe σ2 own1 ++ [some (.ref D)]) H9 ∧
                PostR X W G F1 σ (fun d F' H' => ∀ v, Fz X.K F' v d → Q v H') ((compL u1 t1 f own1 (ds1.drop (jj + 1)) env9).bind fun ys e4 => (compL2 u t it1 u1 t1 f own own1 (ds.drop (i + 1)) (wipeE e4 own)).bind fun zs e5 => fin2 own e1 (acc9 ++ (ys ++ zs)) e5),
                fun H9 ⟨F9, env9, acc9, a1, a2, a4⟩ => ⟨k - 1, by omega, F9, env9, acc9, a1, a2, by omega, a4⟩, fun x1 H10 y1 => ?_⟩
              obtain ⟨F10, gr1, fx1⟩ := yld1 x1 H10 y1
              obtain ⟨s10, j10⟩ := growJ gr1 j8'
              cases hu1' : u1 ds1[jj] with
              | none => simp only [hu1'] at q8; exact q8.elim
              | some as1 =>
                simp only [hu1'] at q8
                refine ⟨F10, ds1[jj], as1, j10.sub, fx1, hu1', fun vs1 fvs1 => ⟨wipe_setAll (hu1 _ _ hu1'), ?_⟩⟩
                obtain ⟨G1, hio1, jp1, back1⟩ := j10.protect
                have io1 : ∀ {σ : St}, ∀ p ∈ G1.io, σ[p.1]? = some (some p.2) := fun p hp => by rw [hio1] at hp; cases hp
                have j11 := jp1.setAll fvs1
                refine ⟨G1, F10, _, ⟨j11, io1⟩, ?_⟩
                cases ht1 : t1 (setEv env8 as1) with
                | no => rw [ht1] at q8; exact q8.elim
                | exc c e => rw [ht1] at q8; exact q8.elim
                | ok b1 e12 =>
                  rw [ht1] at q8
                  intro F12 H12 s12 j12
                  have wl1 : wipe (setAll (wipe σ2 own1) (as1.map (·.1)) vs1) own1 = wipe σ2 own1 := wipe_setAll (hu1 _ _ hu1')
                  cases b1 with
                  | false =>
                    refine iteF ?_
                    have j13 := j12.j0.wipe own1
                    rw [wl1] at j13
                    exact ⟨F12, wipeE e12 own1, acc8, s8.trans (s10.trans s12), back1 F12 _ _ H12 s12 rfl j13, q8⟩
                  | true =>
                    refine iteT ?_
                    refine ⟨G1, F12, e12, j12, ?_⟩
                    have q8' : PostR X W G F1 σ (fun d F' H' => ∀ v, Fz X.K F' v d → Q v H') (((f e12).nox.bind fun y e3 => (compL u1 t1 f own1 (ds1.drop (jj + 1)) (wipeE e3 own1)).bind fun ys e4 => .ok (y :: ys) e4).bind fun ys e4 => (compL2 u t it1 u1 t1 f own own1 (ds.drop (i + 1)) (wipeE e4 own)).bind fun zs e5 => fin2 own e1 (acc8 ++ (ys ++ zs)) e5) := q8
                    cases hf : f e12 with
                    | no => rw [hf] at q8'; exact q8'.elim
                    | exc c e => rw [hf] at q8'; exact q8'.elim
                    | ok y e13 =>
                      rw [hf] at q8'
                      have q9 : PostR X W G F1 σ (fun d F' H' => ∀ v, Fz X.K F' v d → Q v H') (((compL u1 t1 f own1 (ds1.drop (jj + 1)) (wipeE e13 own1)).bind fun ys e4 => .ok (y :: ys) e4).bind fun ys e4 => (compL2 u t it1 u1 t1 f own own1 (ds.drop (i + 1)) (wipeE e4 own)).bind fun zs e5 => fin2 own e1 (acc8 ++ (ys ++ zs)) e5) := q8'
                      rw [Res.bind_bind] at q9
                      have q10 : PostR X W G F1 σ (fun d F' H' => ∀ v, Fz X.K F' v d → Q v H') ((compL u1 t1 f own1 (ds1.drop (jj + 1)) (wipeE e13 own1)).bind fun ys e4 => (compL2 u t it1 u1 t1 f own own1 (ds.drop (i + 1)) (wipeE e4 own)).bind fun zs e5 => fin2 own e1 (acc8 ++ [y] ++ (ys ++ zs)) e5) := by
                        have e : (fun (ys : List PyData) (e4 : Ev) => (compL2 u t it1 u1 t1 f own own1 (ds.drop (i + 1)) (wipeE e4 own)).bind fun zs e5 => fin2 own e1 (acc8 ++ [y] ++ (ys ++ zs)) e5) = fun ys e4 => (compL2 u t it1 u1 t1 f own own1 (ds.drop (i + 1)) (wipeE e4 own)).bind fun zs e5 => fin2 own e1 (acc8 ++ ((y :: ys) ++ zs)) e5 := by
                          funext ys e4
                          congr 1
                          funext zs e5
                          rw [List.append_assoc]
                          rfl
                        rw [e]
                        exact q9
                      have hacc : acc8.length < sz := by
                        cases hr : compL u1 t1 f own1 (ds1.drop (jj + 1)) (wipeE e13 own1) with
                        | no => rw [hr] at q10; exact q10.elim
                        | exc c e => exact absurd hr (compL_ne _ _ c e)
                        | ok ys e4 =>
                          rw [hr] at q10
                          have q10 : PostR X W G F1 σ (fun d F' H' => ∀ v, Fz X.K F' v d → Q v H') ((compL2 u t it1 u1 t1 f own own1 (ds.drop (i + 1)) (wipeE e4 own)).bind fun zs e5 => fin2 own e1 (acc8 ++ [y] ++ (ys ++ zs)) e5) := q10
                          cases hr2 : compL2 u t it1 u1 t1 f own own1 (ds.drop (i + 1)) (wipeE e4 own) with
                          | no => rw [hr2] at q10; exact q10.elim
                          | exc c e => exact absurd hr2 (compL2_ne _ _ c e)
                          | ok zs e5 =>
                            rw [hr2] at q10
                            have q10 : PostR X W G F1 σ (fun d F' H' => ∀ v, Fz X.K F' v d → Q v H') (fin2 own e1 (acc8 ++ [y] ++ (ys ++ zs)) e5) := q10
                            unfold fin2 at q10
                            by_cases hz : (acc8 ++ [y] ++ (ys ++ zs)).length ≤ sz
                            · rw [List.length_append, List.length_append, List.length_singleton] at hz
                              omega
                            · rw [if_neg hz] at q10
                              exact q10.elim
                      intro F14 H14 s14 j14 z fz
                      have j15 := j14.j0.wipe own1
                      rw [wl1] at j15
                      have j16 := back1 F14 _ _ H14 (s12.trans s14) rfl j15
                      obtain ⟨vs4, h1, h2, j17⟩ := j16.push fz
                      exact ⟨vs4, h1, by rw [h2, sz_eq]; exact hacc, F14, wipeE e13 own1, acc8 ++ [y], s8.trans (s10.trans (s12.trans s14)), j17, q10⟩
            · have e : jj = ds1.length := by omega
              subst e
              rw [List.drop_length] at q8
              refine .inl ⟨ws1 (Nat.le_refl _), ?_⟩
              obtain ⟨G1, hio1, jp1, back1⟩ := j8'.protect
              have j9 := jp1.wipe own
              rw [wipe_wipe wl hoo] at j9
              exact ⟨F8, wipeE env8 own, acc8, sF.trans s8, back1 F8 _ _ H8 (Same.refl F8) hl7.symm j9, q8⟩
  · have e : i = ds.length := by omega
    subst e
    rw [List.drop_length] at q
    refine .inl ⟨ws (Nat.le_refl _), ?_⟩
    obtain ⟨F2, s2, f2, j3⟩ := j'.freezeL (d := .list acc) (by rw [O.fz, fzL_fr]; rfl)
    have j4 := j1.j0.unwipe j3 (s'.trans s2)
    have q' : PostR X W G F1 σ (fun d F' H' => ∀ v, Fz X.K F' v d → Q v H') (fin2 own e1 (acc ++ []) env') := q
    rw [List.append_nil] at q'
    unfold fin2 at q'
    by_cases hz : acc.length ≤ sz
    · rw [if_pos hz] at q'
      exact q' F2 H' (s'.trans s2) ⟨j4, j1.io⟩ _ f2
    · rw [if_neg hz] at q'
      exact q'.elim
theorem d_comp2 {elt tg iter tg1 iter1 : Expr} {ifs ifs1 : List Expr} {scope : Scope} {own : List (Str × Nat)} {it it1 : LM} {u u1 : UM} {t t1 : TM} {f : EM} {is is1 : List Nat} (own1 : List Nat) (hc : X.calm = true) (hN : X.N.Nodup) (hi : DI X W tg iter it) (ok : BlkOk X.N X.env.scope scope own)
    (hg : ∀ (s : Shared) (H : Hp) (C : Addr) (cl : List (Str × Addr)) (fp : List Addr), DG (X.blk s H scope (compEnvC scope cl C X.env) fp) is tg u) (ht : ∀ (s : Shared) (H : Hp) (C : Addr) (cl : List (Str × Addr)) (fp : List Addr), DTs (X.blk s H scope (compEnvC scope cl C X.env) fp) WF ifs t)
    (hi1 : ∀ (s : Shared) (H : Hp) (C : Addr) (cl : List (Str × Addr)) (fp : List Addr), DI (X.blk s H scope (compEnvC scope cl C X.env) fp) WF tg1 iter1 it1)
    (hg1 : ∀ (s : Shared) (H : Hp) (C : Addr) (cl : List (Str × Addr)) (fp : List Addr), DG (X.blk s H scope (compEnvC scope cl C X.env) fp) is1 tg1 u1) (ht1 : ∀ (s : Shared) (H : Hp) (C : Addr) (cl : List (Str × Addr)) (fp : List Addr), DTs (X.blk s H scope (compEnvC scope cl C X.env) fp) WF ifs1 t1)
    (he : ∀ (s : Shared) (H : Hp) (C : Addr) (cl : List (Str × Addr)) (fp : List Addr), DE (X.blk s H scope (compEnvC scope cl C X.env) fp) WF elt f) (hown : ∀ i ∈ is, i ∈ own.map (·.2) := by decide) (hown1 : ∀ i ∈ is1, i ∈ own1 := by decide) (hoo : ∀ i ∈ own1, i ∈ own.map (·.2) := by decide) (hs : ∀ x, foldedSetIterable iter X.env x = pure x := by intro _; rfl) (hs1 : ∀ env x, foldedSetIterable iter1 env x = pure x := by intro _ _; rfl) :
    DE X W (.ListComp elt [⟨tg, iter, ifs, 0⟩, ⟨tg1, iter1, ifs1, 0⟩] scope pos) (eComp2 it u t it1 u1 t1 f (own.map (·.2)) own1) :=
  ⟨fun pins s σ H Q I h => (pe_lc2 (vs1 := own1) (g := canG X.K u) (tt := canT X WF t) (wi1 := canI X WF it1) (g1 := canG X.K u1) (tt1 := canT X WF t1) (te := canE X WF f) hc hN hi ok hoo (fun s H C cl fp => (hg s H C cl fp).run) (fun s H C cl fp => (ht s H C cl fp).run) (fun s H C cl fp => hi1 s H C cl fp) (fun s H C cl fp => (hg1 s H C cl fp).run) (fun s H C cl fp => (ht1 s H C cl fp).run) (fun s H C cl fp => he s H C cl fp) hs hs1).run pins s σ H Q I
    (canComp2 (fun d as h' i hi' => hown i (by rw [← (hg s H 0 [] []).st d as h']; exact hi')) (fun d as h' i hi' => hown1 i (by rw [← (hg1 s H 0 [] []).st d as h']; exact hi')) hoo σ H Q h)⟩
theorem s_comp2 (i : Nat) {y : Str} {py spos : Pos} {elt tg iter tg1 iter1 : Expr} {ifs ifs1 : List Expr} {scope : Scope} {own : List (Str × Nat)} {it it1 : LM} {u u1 : UM} {t t1 : TM} {f : EM} {is is1 ks : List Nat} (own1 : List Nat) (hc : X.calm = true) (hN : X.N.Nodup)
    (hsw : swapsWith (.ListComp elt [⟨tg, iter, ifs, 0⟩, ⟨tg1, iter1, ifs1, 0⟩] scope pos) (some (.Name y py)) spos.line X.env = pure true) (hi : DI X W tg iter it) (ok : BlkOk X.N X.env.scope scope own)
    (hg : ∀ (s : Shared) (H : Hp) (C : Addr) (cl : List (Str × Addr)) (fp : List Addr), DG (X.blk s H scope (compEnvC scope cl C X.env) fp) is tg u) (ht : ∀ (s : Shared) (H : Hp) (C : Addr) (cl : List (Str × Addr)) (fp : List Addr), DTs (X.blk s H scope (compEnvC scope cl C X.env) fp) WF ifs t)
    (hi1 : ∀ (s : Shared) (H : Hp) (C : Addr) (cl : List (Str × Addr)) (fp : List Addr), DI (X.blk s H scope (compEnvC scope cl C X.env) fp) WF tg1 iter1 it1)
    (hg1 : ∀ (s : Shared) (H : Hp) (C : Addr) (cl : List (Str × Addr)) (fp : List Addr), DG (X.blk s H scope (compEnvC scope cl C X.env) fp) is1 tg1 u1) (ht1 : ∀ (s : Shared) (H : Hp) (C : Addr) (cl : List (Str × Addr)) (fp : List Addr), DTs (X.blk s H scope (compEnvC scope cl C X.env) fp) WF ifs1 t1)
    (he : ∀ (s : Shared) (H : Hp) (C : Addr) (cl : List (Str × Addr)) (fp : List Addr), DE (X.blk s H scope (compEnvC scope cl C X.env) fp) WF elt f) (hy : X.N[i]? = some y := by rfl) (hyl : X.env.scope.names.lookup y = some .local := by rfl) (hks : i ∉ ks := by decide) (hown : ∀ i ∈ is, i ∈ own.map (·.2) := by decide) (hown1 : ∀ i ∈ is1, i ∈ own1 := by decide) (hoo : ∀ i ∈ own1, i ∈ own.map (·.2) := by decide)
    (hs : ∀ x, foldedSetIterable iter X.env x = pure x := by intro _; rfl) (hs1 : ∀ env x, foldedSetIterable iter1 env x = pure x := by intro _ _; rfl) : DS X W ks (.Assign [.Name y py] (.ListComp elt [⟨tg, iter, ifs, 0⟩, ⟨tg1, iter1, ifs1, 0⟩] scope pos) spos) (sSt i (eComp2 it u t it1 u1 t1 f (own.map (·.2)) own1)) :=
  ⟨fun pins s σ H D I h => (ps_setLc2 (vs1 := own1) (g := canG X.K u) (tt := canT X WF t) (wi1 := canI X WF it1) (g1 := canG X.K u1) (tt1 := canT X WF t1) (te := canE X WF f) hc hN hy hyl hsw hi ok hoo (fun s H C cl fp => (hg s H C cl fp).run) (fun s H C cl fp => (ht s H C cl fp).run) (fun s H C cl fp => hi1 s H C cl fp) (fun s H C cl fp => (hg1 s H C cl fp).run) (fun s H C cl fp => (ht1 s H C cl fp).run) (fun s H C cl fp => he s H C cl fp) hs hs1).run pins s σ H D I
    (canSt (fun σ H Q h => canComp2 (fun d as h' i hi' => hown i (by rw [← (hg s H 0 [] []).st d as h']; exact hi')) (fun d as h' i hi' => hown1 i (by rw [← (hg1 s H 0 [] []).st d as h']; exact hi')) hoo σ H Q h) hks D σ H h)⟩
end
end Ly

set_option Elab.async false
set_option linter.all false
set_option maxRecDepth 100000
set_option maxHeartbeats 4000000
set_option autoImplicit false
namespace Ly
open PySem PySem.Spec L2
/-! ## a < b of tuples and lists -/
section
variable {X : Cx}
def cmpOk (d e : PyData) : Bool := SeqAt.shaped d && SeqAt.shaped e && PySem.W.alike d e && (match d with | .none => false | _ => true)
theorem cmpOk_of {d e : PyData} (h : cmpOk d e = true) : SeqAt.shaped d = true ∧ SeqAt.shaped e = true ∧ PySem.W.alike d e = true ∧ d ≠ .none := by
  unfold cmpOk at h
  simp only [Bool.and_eq_true] at h
  obtain ⟨⟨⟨h1, h2⟩, h3⟩, h4⟩ := h
  refine ⟨h1, h2, h3, ?_⟩
  rintro rfl
  cases h4
def rCmpD (K : PySem.W.Frag) (f : PyData → PyData → Bool) : R2 := fun x y H Q => ∃ d e, Dp K H x d ∧ Dp K H y e ∧ cmpOk d e = true ∧ Q (.bl (f d e)) H
theorem min_le_room {A : Around} {d e : PyData} (h : SeqAt.shaped d = true) (hu : A.units + 64 < cLine) : A.units + min d.depth e.depth < cLine := by
  have h1 := SeqAt.depth_of_shaped h
  have h2 : min d.depth e.depth ≤ d.depth := Nat.min_le_left _ _
  omega
theorem op_ltD (hu : X.A.units + 64 < cLine) : OpR X (compareOp .Lt) (rCmpD X.K fun d e => PySem.W.dataLt d e) := by
  intro pins s σ H x y v u Q I rx ry h
  obtain ⟨d, e, hd, he, hc, q⟩ := h
  obtain ⟨sd, se, al, nn⟩ := cmpOk_of hc
  obtain ⟨as, r1⟩ := Dp.reads I d x v hd rx
  obtain ⟨bs, r2⟩ := Dp.reads I e y u he ry
  exact PySem.W.lt_data r1 r2 al nn (min_le_room sd hu) ⟨.bl _, H, I, rfl, q⟩
theorem op_gtD (hu : X.A.units + 64 < cLine) : OpR X (compareOp .Gt) (rCmpD X.K fun d e => PySem.W.dataLt e d) := by
  intro pins s σ H x y v u Q I rx ry h
  obtain ⟨d, e, hd, he, hc, q⟩ := h
  obtain ⟨sd, se, al, nn⟩ := cmpOk_of hc
  obtain ⟨as, r1⟩ := Dp.reads I d x v hd rx
  obtain ⟨bs, r2⟩ := Dp.reads I e y u he ry
  exact PySem.W.gt_data r1 r2 al nn (min_le_room sd hu) ⟨.bl _, H, I, rfl, q⟩
theorem op_leD (hu : X.A.units + 64 < cLine) : OpR X (compareOp .LtE) (rCmpD X.K fun d e => !PySem.W.dataLt e d) := by
  intro pins s σ H x y v u Q I rx ry h
  obtain ⟨d, e, hd, he, hc, q⟩ := h
  obtain ⟨sd, se, al, nn⟩ := cmpOk_of hc
  obtain ⟨as, r1⟩ := Dp.reads I d x v hd rx
  obtain ⟨bs, r2⟩ := Dp.reads I e y u he ry
  exact PySem.W.le_data r1 r2 al nn (min_le_room sd hu) ⟨.bl _, H, I, rfl, q⟩
theorem op_geD (hu : X.A.units + 64 < cLine) : OpR X (compareOp .GtE) (rCmpD X.K fun d e => !PySem.W.dataLt d e) := by
  intro pins s σ H x y v u Q I rx ry h
  obtain ⟨d, e, hd, he, hc, q⟩ := h
  obtain ⟨sd, se, al, nn⟩ := cmpOk_of hc
  obtain ⟨as, r1⟩ := Dp.reads I d x v hd rx
  obtain ⟨bs, r2⟩ := Dp.reads I e y u he ry
  exact PySem.W.ge_data r1 r2 al nn (min_le_room sd hu) ⟨.bl _, H, I, rfl, q⟩
def gLtX (a b : PyData) : Option PyData := match gLt a b with
  | some c => some c
  | none => if cmpOk a b then some (.bool (PySem.W.dataLt a b)) else none
def gGtX (a b : PyData) : Option PyData := match gGt a b with
  | some c => some c
  | none => if cmpOk a b then some (.bool (PySem.W.dataLt b a)) else none
def gLeX (a b : PyData) : Option PyData := match gLe a b with
  | some c => some c
  | none => if cmpOk a b then some (.bool (!PySem.W.dataLt b a)) else none
def gGeX (a b : PyData) : Option PyData := match gGe a b with
  | some c => some c
  | none => if cmpOk a b then some (.bool (!PySem.W.dataLt a b)) else none
theorem snd_or {K : PySem.W.Frag} {r : R2} {f : PyData → PyData → Bool} {g : PyData → PyData → Option PyData} (h : Snd2 K r g) : Snd2 K (fun x y H Q => r x y H Q ∨ rCmpD K f x y H Q) (fun a b => match g a b with
  | some c => some c
  | none => if cmpOk a b then some (.bool (f a b)) else none) := by
  intro F H x y a b c Q s fx fy hg q
  try dsimp only at hg
  cases hgl : g a b with
  | some c' =>
    rw [hgl] at hg
    cases hg
    exact .inl (h F H x y a b c Q s fx fy hgl q)
  | none =>
    rw [hgl] at hg
    by_cases hc : cmpOk a b = true
    · have hg : (if cmpOk a b = true then some (PyData.bool (f a b)) else none) = some c := hg
      rw [if_pos hc] at hg
      cases hg
      obtain ⟨sd, se, _, _⟩ := cmpOk_of hc
      exact .inr ⟨a, b, (fx.mono s).dp (shaped_lay sd), (fy.mono s).dp (shaped_lay se), hc, q _ F H .refl (.bl _)⟩
    · have hg : (if cmpOk a b = true then some (PyData.bool (f a b)) else none) = some c := hg
      rw [if_neg hc] at hg
      cases hg
theorem n_ltX {K : PySem.W.Frag} : Snd2 K (fun x y H Q => rLt2 x y H Q ∨ rCmpD K (fun d e => PySem.W.dataLt d e) x y H Q) gLtX := snd_or n_lt
theorem n_gtX {K : PySem.W.Frag} : Snd2 K (fun x y H Q => rGt2 x y H Q ∨ rCmpD K (fun d e => PySem.W.dataLt e d) x y H Q) gGtX := snd_or n_gt
theorem n_leX {K : PySem.W.Frag} : Snd2 K (fun x y H Q => rLe2 x y H Q ∨ rCmpD K (fun d e => !PySem.W.dataLt e d) x y H Q) gLeX := snd_or n_le
theorem n_geX {K : PySem.W.Frag} : Snd2 K (fun x y H Q => rGe2 x y H Q ∨ rCmpD K (fun d e => !PySem.W.dataLt d e) x y H Q) gGeX := snd_or n_ge
theorem o_ltX (hu : X.A.units + 64 < cLine) : OpR X (compareOp .Lt) (fun x y H Q => rLt2 x y H Q ∨ rCmpD X.K (fun d e => PySem.W.dataLt d e) x y H Q) := o_lt.or (op_ltD hu)
theorem o_gtX (hu : X.A.units + 64 < cLine) : OpR X (compareOp .Gt) (fun x y H Q => rGt2 x y H Q ∨ rCmpD X.K (fun d e => PySem.W.dataLt e d) x y H Q) := o_gt.or (op_gtD hu)
theorem o_leX (hu : X.A.units + 64 < cLine) : OpR X (compareOp .LtE) (fun x y H Q => rLe2 x y H Q ∨ rCmpD X.K (fun d e => !PySem.W.dataLt e d) x y H Q) := o_le.or (op_leD hu)
theorem o_geX (hu : X.A.units + 64 < cLine) : OpR X (compareOp .GtE) (fun x y H Q => rGe2 x y H Q ∨ rCmpD X.K (fun d e => !PySem.W.dataLt d e) x y H Q) := o_ge.or (op_geD hu)
end
end Ly

set_option Elab.async false
set_option linter.all false
set_option maxRecDepth 100000
set_option maxHeartbeats 4000000
set_option autoImplicit false
namespace Ly
open PySem PySem.Spec L2
theorem eComp2_a {it it1 : LM} {u u1 : UM} {t t1 : TM} {f : EM} {own own1 : List Nat} {e : Ev} : eComp2 it u t it1 u1 t1 f own own1 e = (it e).bind fun ds e1 => if ds.length ≤ sz then (compL2 u t it1 u1 t1 f own own1 ds (wipeE e1 own)).bind fun l e2 => fin2 own e1 l e2 else .no := rfl
theorem fin2_ok {own : List Nat} {e1 e2 : Ev} {l : List PyData} (h : l.length ≤ sz) : fin2 own e1 l e2 = .ok (.list l) (restE own e1 e2) := if_pos h
theorem comp2_i {α : Type} {u u1 : UM} {t t1 : TM} {it1 : LM} {f : EM} {own own1 : List Nat} {g : α → PyData} {e0 : Ev} (ys : α → List PyData) : ∀ (l : List α), (∀ d ∈ l, ∃ as e2 ds1 e3 e4, u (g d) = some as ∧ t (setEv e0 as) = .ok true e2 ∧ it1 e2 = .ok ds1 e3 ∧ ds1.length ≤ sz ∧ compL u1 t1 f own1 ds1 (wipeE e3 own1) = .ok (ys d) e4 ∧ wipeE e4 own = e0) →
    compL2 u t it1 u1 t1 f own own1 (l.map g) e0 = .ok (l.flatMap ys) e0
  | [], _ => rfl
  | d :: l, h => by
    obtain ⟨as, e2, ds1, e3, e4, h1, h2, h3, h4, h5, h6⟩ := h d List.mem_cons_self
    have ih := comp2_i (u := u) (u1 := u1) (t := t) (t1 := t1) (it1 := it1) (f := f) (own := own) (own1 := own1) (g := g) (e0 := e0) ys l fun x hx => h x (List.mem_cons_of_mem _ hx)
    rw [List.map_cons]
    unfold compL2
    rw [h1]
    dsimp only
    rw [h2]
    show ((it1 e2).nox.bind fun ds1 e3 => if ds1.length ≤ sz then (compL u1 t1 f own1 ds1 (wipeE e3 own1)).bind fun ys e4 => (compL2 u t it1 u1 t1 f own own1 (l.map g) (wipeE e4 own)).bind fun zs e5 => .ok (ys ++ zs) e5 else .no) = _
    rw [h3]
    show (if ds1.length ≤ sz then (compL u1 t1 f own1 ds1 (wipeE e3 own1)).bind fun ys e4 => (compL2 u t it1 u1 t1 f own own1 (l.map g) (wipeE e4 own)).bind fun zs e5 => .ok (ys ++ zs) e5 else .no) = _
    rw [if_pos h4, h5]
    show ((compL2 u t it1 u1 t1 f own own1 (l.map g) (wipeE e4 own)).bind fun zs e5 => .ok (ys d ++ zs) e5) = _
    rw [h6, ih]
    rfl
/-- comprehensions of new owned values -/
theorem comp_n {α : Type} {u : UM} {n : NM} {own : List Nat} {g : α → PyData} {y : α → O} {e0 : Ev} : ∀ (l : List α), (∀ d ∈ l, ∃ as e3, u (g d) = some as ∧ n (setEv e0 as) = .ok (y d) e3 ∧ wipeE e3 own = e0) → compN u tT n own (l.map g) e0 = .ok (l.map y) e0
  | [], _ => rfl
  | d :: l, h => by
    obtain ⟨as, e3, h1, h2, h3⟩ := h d List.mem_cons_self
    have ih := comp_n (u := u) (n := n) (own := own) (g := g) (y := y) (e0 := e0) l fun d hd => h d (List.mem_cons_of_mem _ hd)
    rw [List.map_cons]
    show ((u (g d)).elim .no fun as => ((tT (setEv e0 as)).nox.bind fun b e2 => if b then (n e2).nox.bind fun y e3 => (compN u tT n own (l.map g) (wipeE e3 own)).bind fun ys e4 => .ok (y :: ys) e4 else compN u tT n own (l.map g) (wipeE e2 own))) = _
    rw [h1]
    show ((n (setEv e0 as)).nox.bind fun y e3 => (compN u tT n own (l.map g) (wipeE e3 own)).bind fun ys e4 => .ok (y :: ys) e4) = _
    rw [h2]
    show ((compN u tT n own (l.map g) (wipeE e3 own)).bind fun ys e4 => .ok (y d :: ys) e4) = _
    rw [h3, ih]
    rfl
/-! pairs -/
abbrev pI (p : Int × Int) : PyData := .tuple [.int p.1, .int p.2]
theorem eqv_pI (p q : Int × Int) : PyData.eqv (pI p) (pI q) = decide (p = q) := PySem.W.Datum.eqv (α := Int × Int) p q
theorem dpt_pI (p : Int × Int) : Dpt 1 (pI p) := dpt_tup fun d hd => by
  rcases List.mem_cons.mp hd with rfl | hd
  · exact dpt_int 0 _
  · rw [List.mem_singleton] at hd
    rw [hd]
    exact dpt_int 0 _
theorem gEq_pI (p q : Int × Int) : gEq (pI p) (pI q) = some (.bool (decide (p = q))) := by
  rw [gEq_of ((dpt_pI p).shaped (by decide)) ((dpt_pI q).shaped (by decide)), eqv_pI]
def ltP (p q : Int × Int) : Bool := if p.1 = q.1 then decide (p.2 < q.2) else decide (p.1 < q.1)
theorem dlt_pI (p q : Int × Int) : PySem.W.dataLt (pI p) (pI q) = ltP p q := PySem.W.DatumOrd.lt_eq (α := Int × Int) p q
theorem gLtX_pI (p q : Int × Int) : gLtX (pI p) (pI q) = some (.bool (ltP p q)) := by
  have e : cmpOk (pI p) (pI q) = true := by
    have al : PySem.W.alike (pI p) (pI q) = true := PySem.W.DatumOrd.alike (α := Int × Int) p q
    unfold cmpOk
    rw [(dpt_pI p).shaped (by decide), (dpt_pI q).shaped (by decide), al]
    rfl
  show (if cmpOk (pI p) (pI q) then some (PyData.bool (PySem.W.dataLt (pI p) (pI q))) else none) = _
  rw [if_pos e, dlt_pI]
theorem any_pI (p : Int × Int) (l : List (Int × Int)) : ((l.map pI).any fun z => PyData.eqv z (pI p)) = decide (p ∈ l) := by
  induction l with
  | nil => rfl
  | cons x l ih =>
    rw [List.map_cons, List.any_cons, ih, eqv_pI]
    by_cases h : x = p
    · subst h
      rw [decide_eq_true rfl, decide_eq_true List.mem_cons_self]
      rfl
    · rw [decide_eq_false h, Bool.false_or]
      refine decide_eq_decide.mpr ⟨fun z => List.mem_cons_of_mem _ z, fun z => (List.mem_cons.mp z).resolve_left fun w => h w.symm⟩
theorem gIn_pI (p : Int × Int) (l : List (Int × Int)) : gIn (pI p) (.list (l.map pI)) = some (.bool (decide (p ∈ l))) := by
  have s2 : SeqAt.shaped (.list (l.map pI)) = true := (dpt_list (n := 1) fun d hd => by
    obtain ⟨x, _, rfl⟩ := List.mem_map.mp hd
    exact dpt_pI x).shaped (by decide)
  show (inD (pI p) (.list (l.map pI))).map PyData.bool = _
  show (if SeqAt.shaped (pI p) && SeqAt.shaped (.list (l.map pI)) then some ((l.map pI).any fun z => PyData.eqv z (pI p)) else none).map PyData.bool = _
  rw [(dpt_pI p).shaped (by decide), s2, any_pI]
  rfl
theorem gDix_T (ps : List (List Key × PyData)) {d : PyData} {k : List Key} (h : keysD d = some k) : gDix (dicT ps) d = valP ps k := by
  unfold gDix
  rw [lookD_T ps h]
  cases valP ps k <;> rfl
/-! a list that is ascending stays as it is -/
theorem sortD_asc {l : List PyData} (h : l.Pairwise fun a b => dle a b = true) : sortD l = l := List.mergeSort_of_pairwise h
theorem gSortX_pI (l : List (Int × Int)) : gSortX [.list (l.map pI)] = some (.list (sortD (l.map pI))) := by
  have e : l.map pI = l.map (PySem.W.Datum.toD (α := Int × Int)) := rfl
  rw [e]
  exact gSortX_P (n := 1) (fun x _ => dpt_pI x) (by decide)
theorem sort_pI {l m : List (Int × Int)} (h : l.Perm m) : sortD (l.map pI) = sortD (m.map pI) := sort_perm (α := Int × Int) h
end Ly

set_option Elab.async false
set_option linter.all false
set_option maxRecDepth 100000
set_option maxHeartbeats 4000000
set_option autoImplicit false
namespace Ly
open PySem PySem.Spec L2
/-! ## a dict of the module with text keys, its values data -/
inductive KEs (K : PySem.W.Frag) : List DictEntry → List (Str × PyData) → Prop
  | nil : KEs K [] []
  | cons {h : Int} {x : Str} {t : Tok} {val : Value} {v : V} {d : PyData} {es : List DictEntry} {ps : List (Str × PyData)} : RelV v val → (∀ F, Fz K F v d) → KEs K es ps → KEs K (⟨h, .str x t, val⟩ :: es) ((x, d) :: ps)
def KDic (K : PySem.W.Frag) (w : World) (a : Addr) (ps : List (Str × PyData)) : Prop := ∃ (es : Array DictEntry) (n : Nat), KDict K w a es n ∧ KEs K es.toList ps
def lkS (ps : List (Str × PyData)) (z : Str) : Option PyData := (ps.find? fun p => p.1 == z).map (·.2)
theorem kes_find {K : PySem.W.Frag} (z : Str) : ∀ {es : List DictEntry} {ps : List (Str × PyData)}, KEs K es ps → es.any (·.refKey) = false ∧ ((es.find? (·.key.isStr z) = none ∧ lkS ps z = none) ∨ ∃ e v d, es.find? (·.key.isStr z) = some e ∧ lkS ps z = some d ∧ RelV v e.val ∧ ∀ F, Fz K F v d)
  | _, _, .nil => ⟨rfl, .inl ⟨rfl, rfl⟩⟩
  | _, _, @KEs.cons _ h x t val v d es ps r f k => by
    obtain ⟨h1, h2⟩ := kes_find z k
    refine ⟨by rw [List.any_cons, h1]; rfl, ?_⟩
    cases hx : x == z with
    | true =>
      have e1 : (⟨h, .str x t, val⟩ :: es : List DictEntry).find? (·.key.isStr z) = some ⟨h, .str x t, val⟩ := List.find?_cons_of_pos hx
      have e2 : lkS ((x, d) :: ps) z = some d := by
        unfold lkS
        rw [List.find?_cons_of_pos (p := fun p : Str × PyData => p.1 == z) (a := (x, d)) hx]
        rfl
      exact .inr ⟨_, v, d, e1, e2, r, f⟩
    | false =>
      have e1 : (⟨h, .str x t, val⟩ :: es : List DictEntry).find? (·.key.isStr z) = es.find? (·.key.isStr z) := List.find?_cons_of_neg (by show ¬ (x == z) = true; rw [hx]; decide)
      have e2 : lkS ((x, d) :: ps) z = lkS ps z := by
        unfold lkS
        rw [List.find?_cons_of_neg (p := fun p : Str × PyData => p.1 == z) (a := (x, d)) (by rw [hx]; decide)]
      rw [e1, e2]
      exact h2
theorem kdic_ns {K : PySem.W.Frag} {w : World} {a : Addr} {ps : List (Str × PyData)} (h : KDic K w a ps) (z : Str) : (PySem.W.nsIn K a z = some none ∧ lkS ps z = none) ∨ ∃ u v d, PySem.W.nsIn K a z = some (some u) ∧ lkS ps z = some d ∧ RelV v u ∧ ∀ F, Fz K F v d := by
  obtain ⟨es, n, D, k⟩ := h
  obtain ⟨h1, h2⟩ := kes_find z k
  unfold PySem.W.nsIn
  rw [D.at_]
  dsimp only
  rcases h2 with ⟨e1, e2⟩ | ⟨e, v, d, e1, e2, r, f⟩
  · rw [e1]
    dsimp only
    rw [h1]
    exact .inl ⟨rfl, e2⟩
  · rw [e1]
    exact .inr ⟨e.val, v, d, rfl, e2, r, f⟩
def gKix (ps : List (Str × PyData)) : PyData → Option PyData
  | .str z => lkS ps z
  | _ => none
def gKin (neg : Bool) (ps : List (Str × PyData)) : PyData → Option PyData
  | .str z => some (.bool (if neg then !(lkS ps z).isSome else (lkS ps z).isSome))
  | _ => none
section
variable {X : Cx} {W : WX} {d : Addr} {ps : List (Str × PyData)} {x : Str} {a : Expr} {f : EM} {p pos : Pos}
theorem n_kix (D : KDic X.K X.w d ps) : Snd1 X.K (fun y H Q => rIxD X.K X.w (.ref d) y H Q) (gKix ps) := by
  intro F H y b c Q s fy hg q
  cases fy with
  | str z =>
    have hg : lkS ps z = some c := hg
    rcases kdic_ns D z with ⟨_, e⟩ | ⟨u, v, d', e1, e2, r, k⟩
    · rw [e] at hg; cases hg
    · rw [e2] at hg
      cases hg
      obtain ⟨es, n, D', _⟩ := D
      exact ⟨d, z, v, rfl, rfl, ⟨es, n, u, D'.at_, D'.lit, e1, r⟩, q _ F H .refl (k F)⟩
  | _ => cases hg
theorem n_kin (D : KDic X.K X.w d ps) : Snd1 X.K (fun y H Q => ∃ (z : Str) (r : Option Value), y = .str z ∧ V.ref d = .ref d ∧ PySem.W.nsIn X.K d z = some r ∧ Q (.bl r.isSome) H) (gKin false ps) := by
  intro F H y b c Q s fy hg q
  cases fy with
  | str z =>
    cases hg
    rcases kdic_ns D z with ⟨e1, e⟩ | ⟨u, v, d', e1, e2, r, k⟩
    · refine ⟨z, none, rfl, rfl, e1, ?_⟩
      rw [e] at q
      exact q _ F H .refl (.bl _)
    · refine ⟨z, some u, rfl, rfl, e1, ?_⟩
      rw [e2] at q
      exact q _ F H .refl (.bl _)
  | _ => cases hg
theorem n_knin (D : KDic X.K X.w d ps) : Snd1 X.K (fun y H Q => ∃ (z : Str) (r : Option Value), y = .str z ∧ V.ref d = .ref d ∧ PySem.W.nsIn X.K d z = some r ∧ Q (.bl (!r.isSome)) H) (gKin true ps) := by
  intro F H y b c Q s fy hg q
  cases fy with
  | str z =>
    cases hg
    rcases kdic_ns D z with ⟨e1, e⟩ | ⟨u, v, d', e1, e2, r, k⟩
    · refine ⟨z, none, rfl, rfl, e1, ?_⟩
      rw [e] at q
      exact q _ F H .refl (.bl _)
    · refine ⟨z, some u, rfl, rfl, e1, ?_⟩
      rw [e2] at q
      exact q _ F H .refl (.bl _)
  | _ => cases hg
theorem d_kix (D : KDic X.K X.w d ps) (hm : X.mg x = some (.ref d)) (ha : DE X W a f) (hg : Gl X x := by rfl) (hd : (x == ("__debug__" : Str)) = false := by decide) (hp : PlainIx a := by exact fun _ _ => rfl) :
    DE X W (.Subscript (.Name x p) a pos) (e1 (gKix ps) f) := weakE (pe_ix ix_kdict (pe_glob (v := .ref d) hg hm rfl hd) ha hp) (fun σ H Q h => can1 (n_kix D) σ H Q h)
theorem d_kin (D : KDic X.K X.w d ps) (hm : X.mg x = some (.ref d)) (ha : DE X W a f) (hg : Gl X x := by rfl) (hd : (x == ("__debug__" : Str)) = false := by decide) (hb : behindInMarks .In (.Name x p) = false := by rfl) :
    DE X W (.Compare a [.In] [.Name x p] pos) (e1 (gKin false ps) f) := weakE (pe_cmpR (op_in_kd D.choose_spec.choose_spec.1) ha (pe_glob (v := .ref d) hg hm rfl hd) hb) (fun σ H Q h => can1 (n_kin D) σ H Q h)
theorem d_knin (D : KDic X.K X.w d ps) (hm : X.mg x = some (.ref d)) (ha : DE X W a f) (hg : Gl X x := by rfl) (hd : (x == ("__debug__" : Str)) = false := by decide) (hb : behindInMarks .NotIn (.Name x p) = false := by rfl) :
    DE X W (.Compare a [.NotIn] [.Name x p] pos) (e1 (gKin true ps) f) := weakE (pe_cmpR (op_notIn_kd D.choose_spec.choose_spec.1) ha (pe_glob (v := .ref d) hg hm rfl hd) hb) (fun σ H Q h => can1 (n_knin D) σ H Q h)
theorem t_kin (D : KDic X.K X.w d ps) (hm : X.mg x = some (.ref d)) (ha : DE X W a f) (hg : Gl X x := by rfl) (hd : (x == ("__debug__" : Str)) = false := by decide) (hb : behindInMarks .In (.Name x p) = false := by rfl) :
    DT X W (.Compare a [.In] [.Name x p] pos) (tB2 (e1 (gKin false ps) f)) := weakT (pt_cmpR (op_in_kd D.choose_spec.choose_spec.1) ha (pe_glob (v := .ref d) hg hm rfl hd) hb) (canTB fun σ H Q h => can1 (n_kin D) σ H Q h)
theorem t_knin (D : KDic X.K X.w d ps) (hm : X.mg x = some (.ref d)) (ha : DE X W a f) (hg : Gl X x := by rfl) (hd : (x == ("__debug__" : Str)) = false := by decide) (hb : behindInMarks .NotIn (.Name x p) = false := by rfl) :
    DT X W (.Compare a [.NotIn] [.Name x p] pos) (tB2 (e1 (gKin true ps) f)) := weakT (pt_cmpR (op_notIn_kd D.choose_spec.choose_spec.1) ha (pe_glob (v := .ref d) hg hm rfl hd) hb) (canTB fun σ H Q h => can1 (n_knin D) σ H Q h)
end
/-! tuples of the module -/
theorem KTp.sq {K : PySem.W.Frag} {H : Hp} {a : Addr} {xs : List V} (h : KTp K a xs) : SqT K H a xs := .inr h
def unC : PyData → Option (List PyData)
  | .dict [(.bool true, .list ds)] => some ds
  | _ => none
theorem unC_c (ds : List PyData) : unC (cT ds) = some ds := rfl
def gLenC : List PyData → Option PyData
  | [d] => match unC d with
    | some ds => some (.int ds.length)
    | none => gLen [d]
  | ds => gLen ds
def gIxC (d i : PyData) : Option PyData := match unC d with
  | some ds => match i with
    | .int k => atI ds k
    | _ => none
  | none => gIx d i
theorem unC_eq {d : PyData} {ds : List PyData} (h : unC d = some ds) : d = cT ds := by
  unfold unC at h
  split at h
  · cases h; rfl
  · cases h
theorem fz_c {K : PySem.W.Frag} {F : Hp} {v : V} {ds : List PyData} (h : Fz K F v (cT ds)) : ∃ a xs, v = .ref a ∧ KTp K a xs ∧ FzL K F xs ds := by
  generalize e : cT ds = d at h
  unfold cT at e
  cases h with
  | kt h t =>
    unfold cT at e
    have e := PyData.dict.inj e
    have e := (List.cons.inj e).1
    have e := (Prod.mk.inj e).2
    have e := PyData.list.inj e
    subst e
    exact ⟨_, _, rfl, h, t⟩
  | dK h t =>
    cases e
    generalize hz : ((PyData.bool true, PyData.list ds) : PyData × PyData) = z at t
    cases t with
    | @cons k _ _ _ _ _ _ => cases k <;> cases hz
  | _ => cases e
theorem n_lenC {K : PySem.W.Frag} : SndL K (fun xs H Q => ∃ x n, xs = [x] ∧ LenV K x H n ∧ Q (.int n) H) gLenC := by
  intro F H xs as c Q s f hg q
  match as, f, hg with
  | [], f, hg => exact n_len F H xs [] c Q s f hg q
  | d :: e :: r, f, hg => exact n_len F H xs (d :: e :: r) c Q s f hg q
  | [d], f, hg =>
    have hg : (match unC d with
      | some ds => some (PyData.int ds.length)
      | none => gLen [d]) = some c := hg
    cases hu : unC d with
    | none =>
      rw [hu] at hg
      exact n_len F H xs [d] c Q s f hg q
    | some ds =>
      rw [hu] at hg
      cases hg
      have e := unC_eq hu
      subst e
      cases f with
      | cons h t =>
        cases t with
        | nil =>
          obtain ⟨a, ys, rfl, h1, h2⟩ := fz_c h
          exact ⟨_, _, rfl, .inr ⟨_, h1.sq, h2.length.symm⟩, q _ F H .refl (.int _)⟩
theorem n_ixC {K : PySem.W.Frag} : Snd2 K (rIx K) gIxC := by
  intro F H x y a b c Q s fx fy hg q
  unfold gIxC at hg
  cases hu : unC a with
  | none =>
    rw [hu] at hg
    exact n_ix F H x y a b c Q s fx fy hg q
  | some ds =>
    rw [hu] at hg
    have e := unC_eq hu
    subst e
    obtain ⟨l, ys, rfl, h1, h2⟩ := fz_c fx
    cases fy with
    | int k =>
      obtain ⟨v, e, f⟩ := atI_fz h2 hg
      exact .inr (.inl ⟨l, ys, k, v, rfl, rfl, h1.sq, e, q _ F H .refl f⟩)
    | _ => cases hg
end Ly

set_option Elab.async false
set_option linter.all false
set_option maxRecDepth 100000
set_option maxHeartbeats 4000000
set_option autoImplicit false
namespace Ly
open PySem PySem.Spec L2
/-! ## a text in a text, count, pop, new lists by +, new dicts by a display -/
def occIn (a b : Str) : Bool := !(Builtin.Str.occurrences b a 0 b.length 1).isEmpty
def gInT : PyData → PyData → Option PyData
  | .str a, .str b => some (.bool (occIn a b))
  | _, _ => none
theorem n_inT {K : PySem.W.Frag} : Snd2 K (fun x y H Q => ∃ i j, x = .str i ∧ y = .str j ∧ Q (.bl (!(Builtin.Str.occurrences j i 0 j.length 1).isEmpty)) H) gInT := by
  intro F H x y a b c Q s fx fy hg q
  cases fx with
  | str i =>
    cases fy with
    | str k => cases hg; exact ⟨i, k, rfl, rfl, q _ F H .refl (.bl _)⟩
    | _ => cases hg
  | _ => cases hg
def gCount (z : Str) (d : PyData) : Option PyData := match d with
  | .str b => some (.int (Txt.count z b))
  | _ => none
theorem n_count {K : PySem.W.Frag} : SndS1 K (fun x xs H Q => ∃ a b, x = .str a ∧ xs = [.str b] ∧ Q (.int (Txt.count a b)) H) gCount := by
  intro F H z y b c Q s fy hg q
  cases fy with
  | str b => cases hg; exact ⟨z, b, rfl, rfl, q _ F H .refl (.int _)⟩
  | _ => cases hg
section
variable {X : Cx} {W : WX} {o e : Expr} {f g : EM} {apos pos : Pos}
theorem d_count (ho : DE X W o f) (he : DE X W e g) (hs : starEach [e] X.env = [(false, eval e X.env)] := by rfl) (hbase : attributeBase o "count" X.env (eval o X.env) = eval o X.env := by rfl) (hline : (apos.endLine == pos.line) = true := by rfl) :
    DE X W (.Call (.Attribute o "count" apos) [e] [] pos) (eM1 gCount f g) := weakE (pe_m1 F.slot_str_count F.type_str_count mt_count ho he hs hbase hline) (canM1 n_count)
end
/-! pop -/
def ePopO (i : Nat) : EM := fun e => match lstAt e i with
  | some xs => (match xs.getLast? with
    | some (.fr d) => .ok d (e.set i (some (.nd .lst xs.dropLast)))
    | _ => .no)
  | none => .no
section
variable {X : Cx} {W : WX} {ks : List Nat} {pos : Pos}
theorem d_pop (i : Nat) {x : Str} {np apos cpos : Pos} (hN : X.N[i]? = some x := by rfl) (hv : Vis X.env.scope x := by first | exact Or.inl rfl | exact Or.inr (Or.inl rfl) | exact Or.inr (Or.inr rfl)) (hd : (x == ("__debug__" : Str)) = false := by decide) (hcd : (x == ("__classdict__" : Str)) = false := by decide)
    (hbase : attributeBase (.Name x np) "pop" X.env (eval (.Name x np) X.env) = eval (.Name x np) X.env := by rfl) (hline : (apos.endLine == cpos.line) = true := by rfl) : DE X W (.Call (.Attribute (.Name x np) "pop" apos) [] [] cpos) (ePopO i) := by
  refine weakE (pe_bm0 PySem.F.plainAttrs_list PySem.F.slot_list_pop PySem.F.type_list_pop mt_pop (pe_var hN hv hd hcd) hbase hline) fun σ H Q ⟨G, F, env, j, p⟩ => ?_
  unfold ePopO at p
  cases he : lstAt env i with
  | none => rw [he] at p; exact p.elim
  | some xs =>
    rw [he] at p
    dsimp only at p
    cases hl : xs.getLast? with
    | none => rw [hl] at p; exact p.elim
    | some o =>
      rw [hl] at p
      cases o with
      | nd _ _ => exact p.elim
      | fr d =>
        have p : PostR X W G F σ (fun d F' H' => ∀ v, Fz X.K F' v d → Q v H') (.ok d (env.set i (some (.nd .lst xs.dropLast)))) := p
        have he := lstAt_some he
        obtain ⟨S, v, g1, g2, g3⟩ := j.row he
        obtain ⟨l, vs, Sf, rfl, q3, q4, q5, q6, q7, q8⟩ := g2.lst
        have hlen : xs.length - 1 < vs.length := by
          cases xs with
          | nil => cases hl
          | cons _ _ => rw [q5, List.length_cons]; omega
        have hx : xs[xs.length - 1]? = some (.fr d) := by rw [← List.getLast?_eq_getElem?]; exact hl
        have hvl : vs[xs.length - 1]? = some vs[xs.length - 1] := List.getElem?_eq_getElem hlen
        have r := q6 _ _ _ hvl hx
        generalize vs[xs.length - 1] = w at r hvl
        cases r with
        | fr fz =>
          refine ⟨_, g1, .inl ⟨rfl, vs, SqL.of q3⟩, l, vs, _, rfl, rfl, q3, by rw [q5]; exact hvl, ?_⟩
          refine p F _ (Same.refl F) (j.put he g1 fun S3 w6 => ?_) _ fz
          obtain ⟨b, vs3, Sf3, eb, z3, z4, _⟩ := w6.lst
          cases eb
          refine ⟨z4, w6.lst_upd (by rw [List.length_dropLast, List.length_dropLast, q5]) fun vs4 y1 y2 i2 v2 o2 w1 w2 => ?_⟩
          rw [q3] at y1
          cases y1
          left
          rw [List.dropLast_eq_take, List.getElem?_take] at w1 w2
          by_cases c1 : i2 < vs.length - 1
          · rw [if_pos c1] at w1
            rw [if_pos (by omega)] at w2
            exact ⟨w1, w2⟩
          · rw [if_neg c1] at w1
            cases w1
end
/-! new lists by + -/
def nAdd (f g : EM) : NM := fun e => (f e).bind fun a e1 => (g e1).bind fun b e2 => match a, b with
  | .list xs, .list ys => if xs.length + ys.length ≤ sz then .ok (.nd .lst ((xs ++ ys).map .fr)) e2 else .no
  | _, _ => .no
section
variable {X : Cx} {W : WX} {a b : Expr} {f g : EM} {pos : Pos}
theorem n_plus (ha : DE X W a f) (hb : DE X W b g) : DN X W (.BinOp a .Add b pos) (nAdd f g) := by
  refine weakE (pe_op op_catL ha hb) fun σ H Q ⟨G, F, env, j, p⟩ => ?_
  refine ⟨G, F, env, j, p.bind.imp fun x F1 H1 s1 ⟨e1, j1, p2⟩ v fv => ?_⟩
  refine ⟨G, F1, e1, j1, (PostN.bind p2).imp fun y F2 H2 s2 ⟨e2, j2, p3⟩ w fw => ?_⟩
  cases x with
  | list xs =>
    cases y with
    | list ys =>
      have p3 : PostN X W G F2 σ Q (if xs.length + ys.length ≤ sz then .ok (.nd .lst ((xs ++ ys).map .fr)) e2 else .no) := p3
      by_cases hz : xs.length + ys.length ≤ sz
      · rw [if_pos hz] at p3
        cases fv with
        | @lst l vs _ h1 t1 =>
          cases fw with
          | @lst m ws _ h2 t2 =>
            refine ⟨l, m, vs, ws, rfl, rfl, j2.sub.seq (s2.seq h1), j2.sub.seq h2, by rw [t1.length, t2.length, sz_eq]; exact hz, fun q hq => ?_⟩
            exact p3 F2 _ _ (Same.refl F2) (j2.j0.newO hq _ (rep_new (FzL.app (t1.mono s2) t2)))
      · rw [if_neg hz] at p3
        exact p3.elim
    | _ => exact p3.elim
  | _ => exact p3.elim
end
/-! new dicts by a display -/
def lPs : List EM → LM
  | [], e => .ok [] e
  | f :: r, e => (f e).nox.bind fun d e1 => (lPs r e1).bind fun ds e2 => .ok (d :: ds) e2
def nDis (ks : List Key) (fs : List EM) : NM := fun e => (lPs fs e).bind fun ds e1 => if ds.length = ks.length then .ok (mkK (frP (ks.zip ds))) e1 else .no
theorem lPs_ne : ∀ (fs : List EM) (e : Ev) (c : Str) (e' : Ev), lPs fs e ≠ .exc c e'
  | [], e, c, e' => fun z => by cases z
  | f :: r, e, c, e' => by
    unfold lPs
    exact bind_ne (nox_ne _) (fun d e1 c e' => bind_ne (lPs_ne r e1) (fun ds e2 c e' => fun z => by cases z) c e') c e'
structure DP2 (X : Cx) (pos : Pos) (keys : List (Option Expr)) (values : List Expr) (kfs : List (Key × EM)) : Prop where
  run : PPs X pos keys values (kfs.map fun p => (tC (kV p.1), canE X WF p.2))
theorem dp2_n {X : Cx} {pos : Pos} : DP2 X pos [] [] [] := ⟨pps_nil⟩
theorem dp2_c {X : Cx} {pos : Pos} {k v : Expr} {ks : List (Option Expr)} {vs : List Expr} {key : Key} {f : EM} {kfs : List (Key × EM)} (hk : PE X k (tC (kV key))) (hv : DE X WF v f) (hr : DP2 X pos ks vs kfs) : DP2 X pos (some k :: ks) (v :: vs) ((key, f) :: kfs) := ⟨pps_cons hk hv hr.run⟩
theorem dk_str {X : Cx} {x : Str} {j pos} : PE X (.Constant (.str x) j pos) (tC (kV (.inr x))) := pe_str
theorem canPs {X : Cx} {σ : St} {G : Gd} : ∀ (kfs : List (Key × EM)) (F : Hp) (env : Ev) (H : Hp) (Q : List (V × V) → Hp → Prop) (ds : List PyData) (e1 : Ev), J X.K X.mg G F env σ H → lPs (kfs.map (·.2)) env = .ok ds e1 →
    (∀ F1 H1, Same F F1 → J X.K X.mg G F1 e1 σ H1 → ∀ vs : List V, FzL X.K F1 vs ds → vs.length = kfs.length → Q (((kfs.map (·.1)).zip vs).map (fun kv => (kV kv.1, kv.2))) H1) → tPairs (kfs.map fun p => (tC (kV p.1), canE X WF p.2)) σ H Q
  | [], F, env, H, Q, ds, e1, j, he, hR => by
    cases he
    exact hR F H (Same.refl F) j [] .nil rfl
  | (k, f) :: r, F, env, H, Q, ds, e1, j, he, hR => by
    have he : ((f env).nox.bind fun d e1 => (lPs (r.map (·.2)) e1).bind fun ds e2 => .ok (d :: ds) e2) = .ok ds e1 := he
    cases hf : f env with
    | no => rw [hf] at he; cases he
    | exc c e => rw [hf] at he; cases he
    | ok d e0 =>
      rw [hf] at he
      have he : ((lPs (r.map (·.2)) e0).bind fun ds e2 => (Res.ok (d :: ds) e2 : Res (List PyData))) = .ok ds e1 := he
      cases hr : lPs (r.map (·.2)) e0 with
      | no => rw [hr] at he; cases he
      | exc c e => rw [hr] at he; cases he
      | ok es e2 =>
        rw [hr] at he
        cases he
        show canE X WF f σ H fun y H2 => tPairs (r.map fun p => (tC (kV p.1), canE X WF p.2)) σ H2 fun ps H3 => Q ((kV k, y) :: ps) H3
        refine ⟨G, F, env, j, ?_⟩
        rw [hf]
        intro F2 H2 s2 j2 v fv
        exact canPs r F2 e0 H2 _ es e1 j2 hr fun F3 H3 s3 j3 vs fvs hl => hR F3 H3 (s2.trans s3) j3 (v :: vs) (.cons (fv.mono s3) fvs) (by rw [List.length_cons, List.length_cons, hl])
section
variable {X : Cx} {W : WX} {pos : Pos}
theorem fzL_getE {K : PySem.W.Frag} {F : Hp} : ∀ {vs : List V} {ds : List PyData} {j : Nat} {v : V} {d : PyData}, FzL K F vs ds → vs[j]? = some v → ds[j]? = some d → Fz K F v d
  | _, _, 0, _, _, .cons h _, e1, e2 => by cases e1; cases e2; exact h
  | _, _, j + 1, _, _, .cons _ t, e1, e2 => fzL_getE (j := j) t e1 e2
  | _, _, _, _, _, .nil, e1, _ => by cases e1
theorem n_dis {keys : List (Option Expr)} {values : List Expr} (kfs : List (Key × EM)) (h : DP2 X pos keys values kfs) (hn : (kfs.map (·.1)).Nodup := by decide)
    (hall : keys.all (·.isSome) = true := by rfl) (hl : keys.length = values.length := by rfl) (h0 : keys ≠ [] := by exact fun q => nomatch q) (h15 : keys.length ≤ 15 := by decide) (hk : kfs.length = keys.length := by rfl) : DN X W (.Dict keys values pos) (nDis (kfs.map (·.1)) (kfs.map (·.2))) := by
  refine weakE (pe_disp h.run hall hl h0 h15) fun σ H Q ⟨G, F, env, j, p⟩ => ?_
  intro a ha
  have p : PostN X W G F σ Q ((lPs (kfs.map (·.2)) env).bind fun ds e1 => if ds.length = (kfs.map (·.1)).length then .ok (mkK (frP ((kfs.map (·.1)).zip ds))) e1 else .no) := p
  cases hp : lPs (kfs.map (·.2)) env with
  | no => rw [hp] at p; exact p.elim
  | exc c e => exact absurd hp (lPs_ne _ _ c e)
  | ok ds e1 =>
    rw [hp] at p
    have p : PostN X W G F σ Q (if ds.length = (kfs.map (·.1)).length then .ok (mkK (frP ((kfs.map (·.1)).zip ds))) e1 else .no) := p
    by_cases hd : ds.length = (kfs.map (·.1)).length
    case neg =>
      rw [if_neg hd] at p
      exact p.elim
    rw [if_pos hd] at p
    have j2 := j.j0.newO ha (.dK []) (v := .ref a) (o := mkK []) (.nd (N := fun b => b = a) (Sf := fun _ _ => False) (vs := []) ⟨upd_same, rfl, fun b => Iff.rfl⟩ (fun b h => h) rfl (fun j v o e1 e2 => by cases e1) (fun _ _ _ h => h.elim) (fun _ _ h => h.elim))
    obtain ⟨G', hio, jp, back⟩ := j2.protect2
    have io0 : ∀ {σ : St}, ∀ p ∈ G'.io, σ[p.1]? = some (some p.2) := fun p hp => by rw [hio] at hp; cases hp
    refine canPs kfs F env (upd H a (.dK [])) _ ds e1 ⟨jp, io0⟩ hp fun F1 H1 s1 j1 vs fvs hvl => ?_
    have j3 := back F1 e1 σ H1 s1 j1.j0
    have hel : e1.length = σ.length := j1.j0.len
    have eo : (e1 ++ [some (mkK [])])[e1.length]? = some (some (mkK [])) := by
      rw [List.getElem?_append_right (Nat.le_refl _), Nat.sub_self]
      rfl
    have ev : (σ ++ [some (V.ref a)])[e1.length]? = some (some (.ref a)) := by
      rw [hel, List.getElem?_append_right (Nat.le_refl _), Nat.sub_self]
      rfl
    obtain ⟨Sf, r⟩ := j3.ex
    obtain ⟨v', q1, q2⟩ := r.row e1.length _ eo
    rw [ev] at q1
    cases q1
    obtain ⟨b, vs0, Sg, eb, h1, h2, h3, h4, _⟩ := q2.dK
    cases eb
    have hH : H1 a = some (.dK []) := by rw [h1]; rfl
    have hkl : (kfs.map (·.1)).length = kfs.length := List.length_map ..
    have hfs : ((kfs.map (·.1)).zip vs).map (·.1) = kfs.map (·.1) := List.map_fst_zip (by omega)
    have em : mergeK [] ((kfs.map (·.1)).zip vs) = (kfs.map (·.1)).zip vs := merge_nodup _ [] (by rw [List.nil_append, hfs]; exact hn)
    refine ⟨hH, (kfs.map (·.1)).zip vs, rfl, by rw [List.length_zip]; omega, ?_⟩
    rw [em]
    have j4 := j3.put (a := a) (ho := .dK ((kfs.map (·.1)).zip vs)) (o' := mkK (frP ((kfs.map (·.1)).zip ds))) eo ev fun S q6 => by
      obtain ⟨b, vs3, Sf3, eb, z1, z2, z3, z4, _⟩ := q6.dK
      cases eb
      refine ⟨z3, ?_⟩
      have e1' : (frP ((kfs.map (·.1)).zip ds)).map (·.1) = kfs.map (·.1) := by rw [frP_fst, List.map_fst_zip (by omega)]
      have e2' : (frP ((kfs.map (·.1)).zip ds)).map (·.2) = ds.map .fr := by
        unfold frP
        rw [List.map_map]
        have : ((kfs.map (·.1)).zip ds).map (·.2) = ds := List.map_snd_zip (by omega)
        conv => rhs; rw [← this]
        rw [List.map_map]
        rfl
      show Rep _ _ _ _ _ _ (.nd (.dK ((frP ((kfs.map (·.1)).zip ds)).map (·.1))) ((frP ((kfs.map (·.1)).zip ds)).map (·.2)))
      rw [e1', e2']
      refine .nd (N := fun b => b = a) (Sf := fun _ _ => False) (vs := vs) ⟨upd_same, by rw [hkl, hvl], fun b => Iff.rfl⟩ (fun b hb => by rw [hb]; exact z3) (by rw [List.length_map, fvs.length]) (fun j v o w1 w2 => ?_) (fun _ _ _ h => h.elim) (fun _ _ h => h.elim)
      rw [List.getElem?_map] at w2
      cases hdj : ds[j]? with
      | none => rw [hdj] at w2; cases w2
      | some d =>
        rw [hdj] at w2
        cases w2
        exact .fr (fzL_getE fvs w1 hdj)
    rw [List.set_append_right _ _ (Nat.le_refl _), Nat.sub_self] at j4
    exact p F1 _ _ s1 j4
end
end Ly

set_option Elab.async false
set_option linter.all false
set_option maxRecDepth 100000
set_option maxHeartbeats 4000000
set_option autoImplicit false
namespace Ly
open PySem PySem.Spec L2
/-! ## instances that are owned -/
def fIx (f : Str) : List Str → Option Nat
  | [] => none
  | g :: r => if g = f then some 0 else (fIx f r).map (· + 1)
theorem fIx_lt {f : Str} : ∀ {fs : List Str} {k : Nat}, fIx f fs = some k → k < fs.length
  | [], k, h => by cases h
  | g :: r, k, h => by
    unfold fIx at h
    by_cases e : g = f
    · rw [if_pos e] at h
      cases h
      exact Nat.zero_lt_succ _
    · rw [if_neg e] at h
      cases hr : fIx f r with
      | none => rw [hr] at h; cases h
      | some m =>
        rw [hr] at h
        cases h
        exact Nat.succ_lt_succ (fIx_lt hr)
theorem lookup_ix (f : Str) : ∀ (fs : List Str) (vs : List V), (fs.zip vs).lookup f = (fIx f fs).bind fun k => vs[k]?
  | [], vs => rfl
  | g :: r, [] => by
    rw [List.zip_nil_right]
    show none = _
    cases fIx f (g :: r) with
    | none => rfl
    | some k => rfl
  | g :: r, v :: vs => by
    rw [List.zip_cons_cons, List.lookup_cons, lookup_ix f r vs]
    by_cases e : g = f
    · have h2 : fIx f (g :: r) = some 0 := by rw [fIx, if_pos e]
      rw [h2, e, beq_self_eq_true]
      rfl
    · have h2 : fIx f (g :: r) = (fIx f r).map (· + 1) := by rw [fIx, if_neg e]
      rw [h2, beq_eq_false_iff_ne.mpr (Ne.symm e)]
      cases fIx f r <;> rfl
theorem putF_ix (f : Str) (y : V) : ∀ (fs : List Str) (vs : List V), fs.length = vs.length → putF f y (fs.zip vs) = match fIx f fs with
    | some k => fs.zip (vs.set k y)
    | none => (fs ++ [f]).zip (vs ++ [y])
  | [], [], _ => rfl
  | [], _ :: _, h => by cases h
  | _ :: _, [], h => by cases h
  | g :: r, v :: vs, h => by
    have ih := putF_ix f y r vs (Nat.succ.inj h)
    rw [List.zip_cons_cons]
    show (if g = f then (g, y) :: r.zip vs else (g, v) :: putF f y (r.zip vs)) = _
    unfold fIx
    by_cases e : g = f
    · rw [if_pos e, if_pos e]
      rfl
    · rw [if_neg e, if_neg e, ih]
      cases fIx f r with
      | none => rfl
      | some k => rfl
section
variable {K : PySem.W.Frag} {mg : MG} {F H : Hp} {S : Addr → Prop}
theorem Rep.ins {v : V} {c : Str} {fs : List Str} {xs : List O} (h : Rep K mg F H S v (.nd (.ins c fs) xs)) : ∃ (a C dx : Addr) (vs : List V) (Sf : Nat → Addr → Prop), v = .ref a ∧ mg c = some (.ref C) ∧ H a = some (.ins C dx (fs.zip vs)) ∧ fs.length = vs.length ∧ H dx = some (.own a) ∧ S a ∧ S dx ∧ vs.length = xs.length ∧
    (∀ (j : Nat) (v : V) (o : O), vs[j]? = some v → xs[j]? = some o → Rep K mg F H (Sf j) v o) ∧ (∀ i j b, Sf i b → Sf j b → i = j) ∧ ∀ j b, Sf j b → S b ∧ b ≠ a ∧ b ≠ dx := by
  cases h with
  | @nd _ N Sf a _ vs _ h1 h2 h3 h4 h5 h6 =>
    obtain ⟨C, dx, q1, q2, q3, q4, q5⟩ := h1
    exact ⟨a, C, dx, vs, Sf, rfl, q1, q2, q3, q4, h2 _ ((q5 a).mpr (.inl rfl)), h2 _ ((q5 dx).mpr (.inr rfl)), h3, h4, h5, fun j b q => ⟨(h6 j b q).1, fun z => (h6 j b q).2 ((q5 b).mpr (.inl z)), fun z => (h6 j b q).2 ((q5 b).mpr (.inr z))⟩⟩
theorem Rep.ins_mk {a C dx : Addr} {c : Str} {fs : List Str} {vs : List V} {xs : List O} {Sf : Nat → Addr → Prop} (h0 : mg c = some (.ref C)) (h1 : H a = some (.ins C dx (fs.zip vs))) (h2 : fs.length = vs.length) (h3 : H dx = some (.own a)) (sa : S a) (sd : S dx) (h4 : vs.length = xs.length)
    (h5 : ∀ (j : Nat) (v : V) (o : O), vs[j]? = some v → xs[j]? = some o → Rep K mg F H (Sf j) v o) (h6 : ∀ i j b, Sf i b → Sf j b → i = j) (h7 : ∀ j b, Sf j b → S b ∧ b ≠ a ∧ b ≠ dx) : Rep K mg F H S (.ref a) (.nd (.ins c fs) xs) :=
  .nd (N := fun b => b = a ∨ b = dx) ⟨C, dx, h0, h1, h2, h3, fun b => Iff.rfl⟩ (fun b h => by rcases h with h | h <;> rw [h] <;> assumption) h4 h5 h6 fun j b q => ⟨(h7 j b q).1, fun z => z.elim (h7 j b q).2.1 (h7 j b q).2.2⟩
end
/-- a field by its name -/
def fldO (f : Str) (fs : List Str) (xs : List O) : Option O := (fIx f fs).bind fun k => xs[k]?
def putO (c f : Str) (o : O) (fs : List Str) (xs : List O) : O := match fIx f fs with
  | some k => .nd (.ins c fs) (xs.set k o)
  | none => .nd (.ins c (fs ++ [f])) (xs ++ [o])
/-- the instance in slot i -/
def insAt (c : Str) (e : Ev) (i : Nat) : Option (List Str × List O) := match e[i]? with
  | some (some (.nd (.ins c' fs) xs)) => if c' = c then some (fs, xs) else none
  | _ => none
theorem insAt_some {c : Str} {e : Ev} {i : Nat} {p : List Str × List O} (h : insAt c e i = some p) : e[i]? = some (some (.nd (.ins c p.1) p.2)) := by
  unfold insAt at h
  split at h
  · rename_i c' fs xs q
    by_cases z : c' = c
    · rw [if_pos z] at h
      cases h
      rw [q, z]
    · rw [if_neg z] at h
      cases h
  · cases h
/-! ### reading a field that is data -/
def eFld (c f : Str) (i : Nat) : EM := fun e => (insAt c e i).elim .no fun p => match fldO f p.1 p.2 with
  | some (.fr d) => .ok d e
  | _ => .no
def pFld (c f : Str) (i : Nat) : PM := fun e => (insAt c e i).elim none fun p => match fldO f p.1 p.2 with
  | some (.fr d) => some d
  | _ => none
/-- a field, read -/
theorem fld_get {K : PySem.W.Frag} {mg : MG} {F H : Hp} {S : Addr → Prop} {v : V} {c f : Str} {fs : List Str} {xs : List O} {o : O} (h : Rep K mg F H S v (.nd (.ins c fs) xs)) (hf : fldO f fs xs = some o) :
    ∃ (a C dx : Addr) (vs : List V) (w : V) (T : Addr → Prop), v = .ref a ∧ mg c = some (.ref C) ∧ H a = some (.ins C dx (fs.zip vs)) ∧ (fs.zip vs).lookup f = some w ∧ Rep K mg F H T w o ∧ (∀ b, T b → S b) := by
  obtain ⟨a, C, dx, vs, Sf, rfl, h0, h1, h2, h3, _, _, h4, h5, _, h7⟩ := h.ins
  unfold fldO at hf
  cases hk : fIx f fs with
  | none => rw [hk] at hf; cases hf
  | some k =>
    rw [hk] at hf
    have hf : xs[k]? = some o := hf
    have hl : k < vs.length := by rw [← h2]; exact fIx_lt hk
    have hv : vs[k]? = some vs[k] := List.getElem?_eq_getElem hl
    exact ⟨a, C, dx, vs, vs[k], Sf k, rfl, h0, h1, by rw [lookup_ix, hk]; exact hv, h5 k _ _ hv hf, fun b q => (h7 k b q).1⟩
section
variable {X : Cx} {W : WX} {pos : Pos}
theorem d_fld (i : Nat) {c f x : Str} {C : Addr} {np : Pos} (hC : X.mg c = some (.ref C)) (hc : Cls X.K C) (ha : NoAttr X.K C f) (hN : X.N[i]? = some x := by rfl) (hv : Vis X.env.scope x := by first | exact Or.inl rfl | exact Or.inr (Or.inl rfl) | exact Or.inr (Or.inr rfl)) (hd : (x == ("__debug__" : Str)) = false := by decide)
    (hcd : (x == ("__classdict__" : Str)) = false := by decide) (hb : attributeBase (.Name x np) f X.env (eval (.Name x np) X.env) = eval (.Name x np) X.env := by rfl) : DE X W (.Attribute (.Name x np) f pos) (eFld c f i) := by
  refine weakE (pe_fld (pe_var hN hv hd hcd) hb) fun σ H Q ⟨G, F, env, j, p⟩ => ?_
  unfold eFld at p
  cases he : insAt c env i with
  | none => rw [he] at p; exact p.elim
  | some q =>
    obtain ⟨fs, xs⟩ := q
    rw [he] at p
    have p : PostR X W G F σ (fun d F' H' => ∀ v, Fz X.K F' v d → Q v H') (match fldO f fs xs with
      | some (.fr d) => .ok d env
      | _ => .no) := p
    obtain ⟨S, v, g1, g2, _⟩ := j.row (insAt_some he)
    split at p
    · rename_i d hf
      obtain ⟨a, C', dx, vs, w, T, rfl, k0, k1, k2, k3, _⟩ := fld_get g2 hf
      rw [hC] at k0
      cases k0
      cases k3 with
      | fr fz => exact ⟨_, g1, a, C, dx, _, w, rfl, k1, hc, ha, k2, p F H (Same.refl F) j w fz⟩
    · exact p.elim
theorem p_fld (i : Nat) {c f x : Str} {C : Addr} {np : Pos} (hC : X.mg c = some (.ref C)) (hc : Cls X.K C) (ha : NoAttr X.K C f) (hN : X.N[i]? = some x := by rfl) (hv : Vis X.env.scope x := by first | exact Or.inl rfl | exact Or.inr (Or.inl rfl) | exact Or.inr (Or.inr rfl)) (hd : (x == ("__debug__" : Str)) = false := by decide)
    (hcd : (x == ("__classdict__" : Str)) = false := by decide) (hb : attributeBase (.Name x np) f X.env (eval (.Name x np) X.env) = eval (.Name x np) X.env := by rfl) : DP X (.Attribute (.Name x np) f pos) (pFld c f i) := by
  refine weakE (pe_fld (pe_var hN hv hd hcd) hb) fun σ H Q ⟨G, F, env, d, j, e, k⟩ => ?_
  unfold pFld at e
  cases he : insAt c env i with
  | none => rw [he] at e; cases e
  | some q =>
    obtain ⟨fs, xs⟩ := q
    rw [he] at e
    have e : (match fldO f fs xs with
      | some (.fr d) => some d
      | _ => none) = some d := e
    obtain ⟨S, v, g1, g2, _⟩ := j.row (insAt_some he)
    split at e
    · rename_i d' hf
      cases e
      obtain ⟨a, C', dx, vs, w, T, rfl, k0, k1, k2, k3, _⟩ := fld_get g2 hf
      rw [hC] at k0
      cases k0
      cases k3 with
      | fr fz => exact ⟨_, g1, a, C, dx, _, w, rfl, k1, hc, ha, k2, k w fz⟩
    · cases e
end
/-! ### a value becomes a field -/
section
variable {K : PySem.W.Frag} {mg : MG} {G : Gd} {F : Hp} {env : Ev} {σ : St} {H : Hp}
/-- the last row goes into the object of row i -/
theorem J0.absorb {i : Nat} {o oi o' : O} {v : V} {a : Addr} {ho : HO} (j : J0 K mg G F (env ++ [some o]) (σ ++ [some v]) H) (e : env[i]? = some (some oi)) (hv : σ[i]? = some (some (.ref a)))
    (h : ∀ S T : Addr → Prop, Rep K mg F H S (.ref a) oi → Rep K mg F H T v o → (∀ b, S b → ¬ T b) → S a ∧ Rep K mg F (upd H a ho) (fun b => S b ∨ T b) (.ref a) o') : J0 K mg G F (env.set i (some o')) σ (upd H a ho) := by
  obtain ⟨Sf, r⟩ := j.ex
  have hl : env.length = σ.length := by
    have := j.len
    simp only [List.length_append, List.length_singleton] at this
    omega
  have hi := (List.getElem?_eq_some_iff.mp e).1
  obtain ⟨v1, h1, h2⟩ := r.row i oi (by rw [List.getElem?_append_left hi]; exact e)
  rw [List.getElem?_append_left (by omega), hv] at h1
  cases h1
  obtain ⟨v2, p1, p2⟩ := r.row env.length o (by rw [List.getElem?_append_right (Nat.le_refl _), Nat.sub_self]; rfl)
  rw [hl, List.getElem?_append_right (Nat.le_refl _), Nat.sub_self] at p1
  have e1 : v = v2 := by simpa using p1
  subst e1
  obtain ⟨sa, h3⟩ := h (Sf i) (Sf env.length) h2 p2 fun b z w => by
    have := r.dis _ _ b z w
    omega
  obtain ⟨aF, aH, aS⟩ := r.bnd i a sa
  have key : ∀ k b, Sf k b → F b = none ∧ upd H a ho b ≠ none ∧ G.S b := fun k b z => by
    obtain ⟨y1, y2, y3⟩ := r.bnd k b z
    refine ⟨y1, ?_, y3⟩
    by_cases w : b = a
    · subst w
      rw [upd_same]
      exact fun y => nomatch y
    · rw [upd_ne w]
      exact y2
  refine ⟨by rw [List.length_set]; exact hl, ⟨fun k b => if k = i then (Sf i b ∨ Sf env.length b) else (k < env.length ∧ Sf k b), ?_, ?_, ?_⟩, ?_, ?_, j.f0, j.fs⟩
  · intro k o2 e2
    by_cases hk : k = i
    · subst hk
      rw [List.getElem?_set_self hi] at e2
      have e3 : o' = o2 := by simpa using e2
      subst e3
      exact ⟨_, hv, h3.up fun b z => by rw [if_pos rfl]; exact z⟩
    · rw [List.getElem?_set_ne (Ne.symm hk)] at e2
      have hk2 := (List.getElem?_eq_some_iff.mp e2).1
      obtain ⟨w, q1, q2⟩ := r.row k o2 (by rw [List.getElem?_append_left hk2]; exact e2)
      rw [List.getElem?_append_left (by omega)] at q1
      refine ⟨w, q1, (q2.frame (Same.refl F) fun b u z w => ?_).up fun b z => by rw [if_neg hk]; exact ⟨hk2, z⟩⟩
      have ne : b ≠ a := fun y => hk (r.dis _ _ a (by rw [← y]; exact z) sa)
      rw [upd_ne ne]
      exact w
  · intro k m b g1 g2
    try dsimp only at g1 g2
    by_cases hk : k = i
    · by_cases hm : m = i
      · rw [hk, hm]
      · rw [if_pos hk] at g1
        rw [if_neg hm] at g2
        rcases g1 with g1 | g1
        · exact absurd (r.dis _ _ b g1 g2.2) (Ne.symm hm)
        · have := r.dis _ _ b g1 g2.2
          omega
    · rw [if_neg hk] at g1
      by_cases hm : m = i
      · rw [if_pos hm] at g2
        rcases g2 with g2 | g2
        · exact absurd (r.dis _ _ b g1.2 g2) hk
        · have := r.dis _ _ b g1.2 g2
          omega
      · rw [if_neg hm] at g2
        exact r.dis _ _ b g1.2 g2.2
  · intro k b g
    try dsimp only at g
    by_cases hk : k = i
    · rw [if_pos hk] at g
      rcases g with g | g
      · exact key _ b g
      · exact key _ b g
    · rw [if_neg hk] at g
      exact key _ b g.2
  · intro b u q
    have ne : b ≠ a := fun z => by rw [z, aF] at q; cases q
    rw [upd_ne ne]
    exact j.sub b u q
  · intro b u q q2
    have ne : b ≠ a := fun z => by
      rcases aS with w | w
      · rw [z, w] at q; cases q
      · exact q2 (by rw [z]; exact w)
    rw [upd_ne ne]
    exact j.keep b u q q2
/-- .. as the field f of an instance -/
theorem J0.intoF {i : Nat} {c f : Str} {fs : List Str} {xs : List O} {o : O} {v : V} (j : J0 K mg G F (env ++ [some o]) (σ ++ [some v]) H) (e : env[i]? = some (some (.nd (.ins c fs) xs))) :
    ∃ a C dx vs, σ[i]? = some (some (.ref a)) ∧ mg c = some (.ref C) ∧ H a = some (.ins C dx (fs.zip vs)) ∧ fs.length = vs.length ∧ J0 K mg G F (env.set i (some (putO c f o fs xs))) σ (upd H a (.ins C dx (putF f v (fs.zip vs)))) := by
  have hl : env.length = σ.length := by
    have := j.len
    simp only [List.length_append, List.length_singleton] at this
    omega
  have hi := (List.getElem?_eq_some_iff.mp e).1
  obtain ⟨Sf0, r0⟩ := j.ex
  obtain ⟨u, g1, g2⟩ := r0.row i _ (by rw [List.getElem?_append_left hi]; exact e)
  rw [List.getElem?_append_left (by omega)] at g1
  obtain ⟨a, C, dx, vs, Sf, rfl, h0, h1, h2, h3, sa, sd, h4, h5, h6, h7⟩ := g2.ins
  refine ⟨a, C, dx, vs, g1, h0, h1, h2, j.absorb e g1 fun S T q1 q2 dis => ?_⟩
  obtain ⟨a', C', dx', vs', Sg, ea, k0, k1, k2, k3, ka, kd, k4, k5, k6, k7⟩ := q1.ins
  cases ea
  rw [h1] at k1
  have ek := Option.some.inj k1
  injection ek with e1 e2 e3
  subst e1 e2
  have ev : vs' = vs := by
    have := congrArg (fun l => l.map (·.2)) e3
    simp only [List.map_snd_zip (show vs.length ≤ fs.length by omega), List.map_snd_zip (show vs'.length ≤ fs.length by omega)] at this
    exact this.symm
  subst ev
  refine ⟨ka, ?_⟩
  have ned : dx ≠ a := fun z => by rw [z, h1] at h3; cases h3
  have hd' : upd H a (.ins C dx (putF f v (fs.zip vs'))) dx = some (.own a) := by rw [upd_ne ned]; exact h3
  have nT : ∀ b, T b → b ≠ a ∧ b ≠ dx := fun b z => ⟨fun w => dis a ka (by rw [← w]; exact z), fun w => dis dx kd (by rw [← w]; exact z)⟩
  have fr1 : ∀ (m : Nat) (w : V) (y : O), vs'[m]? = some w → xs[m]? = some y → Rep K mg F (upd H a (.ins C dx (putF f v (fs.zip vs')))) (Sg m) w y := fun m w y z1 z2 => (k5 m w y z1 z2).frame (Same.refl F) fun b u z q => by
    rw [upd_ne (k7 m b z).2.1]
    exact q
  have fr2 : Rep K mg F (upd H a (.ins C dx (putF f v (fs.zip vs')))) T v o := q2.frame (Same.refl F) fun b u z q => by
    rw [upd_ne (nT b z).1]
    exact q
  have hput := putF_ix f v fs vs' h2
  unfold putO
  cases hk : fIx f fs with
  | some k =>
    rw [hk] at hput
    have hput : putF f v (fs.zip vs') = fs.zip (vs'.set k v) := hput
    have hkl := fIx_lt hk
    refine .ins_mk (vs := vs'.set k v) (Sf := fun m b => if m = k then T b else Sg m b) h0 (by rw [upd_same, hput]) (by rw [List.length_set]; exact h2) hd' (.inl ka) (.inl kd) (by rw [List.length_set, List.length_set]; exact k4) (fun m w y z1 z2 => ?_) ?_ ?_
    · by_cases hm : k = m
      · subst hm
        rw [List.getElem?_set_self (by omega)] at z1
        rw [List.getElem?_set_self (by omega)] at z2
        cases z1
        cases z2
        exact fr2.up fun b z => by rw [if_pos rfl]; exact z
      · rw [List.getElem?_set_ne hm] at z1 z2
        exact (fr1 m w y z1 z2).up fun b z => by rw [if_neg (Ne.symm hm)]; exact z
    · intro m n b z1 z2
      try dsimp only at z1 z2
      by_cases hm : m = k
      · by_cases hn : n = k
        · rw [hm, hn]
        · rw [if_pos hm] at z1
          rw [if_neg hn] at z2
          exact absurd z1 (dis b (k7 n b z2).1)
      · rw [if_neg hm] at z1
        by_cases hn : n = k
        · rw [if_pos hn] at z2
          exact absurd z2 (dis b (k7 m b z1).1)
        · rw [if_neg hn] at z2
          exact k6 m n b z1 z2
    · intro m b z
      try dsimp only at z
      by_cases hm : m = k
      · rw [if_pos hm] at z
        exact ⟨.inr z, nT b z⟩
      · rw [if_neg hm] at z
        exact ⟨.inl (k7 m b z).1, (k7 m b z).2⟩
  | none =>
    rw [hk] at hput
    have hput : putF f v (fs.zip vs') = (fs ++ [f]).zip (vs' ++ [v]) := hput
    refine .ins_mk (vs := vs' ++ [v]) (Sf := fun m b => if m = vs'.length then T b else (m < vs'.length ∧ Sg m b)) h0 (by rw [upd_same, hput]) (by rw [List.length_append, List.length_append, h2]; rfl) hd' (.inl ka) (.inl kd) (by rw [List.length_append, List.length_append, k4]; rfl) (fun m w y z1 z2 => ?_) ?_ ?_
    · by_cases hm : m < vs'.length
      · rw [List.getElem?_append_left hm] at z1
        rw [List.getElem?_append_left (by omega)] at z2
        exact (fr1 m w y z1 z2).up fun b z => by rw [if_neg (by omega)]; exact ⟨hm, z⟩
      · have hm2 : m = vs'.length := by
          have := (List.getElem?_eq_some_iff.mp z1).1
          rw [List.length_append] at this
          have : m < vs'.length + 1 := this
          omega
        subst hm2
        rw [List.getElem?_append_right (Nat.le_refl _), Nat.sub_self] at z1
        rw [k4, List.getElem?_append_right (Nat.le_refl _), Nat.sub_self] at z2
        cases z1
        cases z2
        exact fr2.up fun b z => by rw [if_pos rfl]; exact z
    · intro m n b z1 z2
      try dsimp only at z1 z2
      by_cases hm : m = vs'.length
      · by_cases hn : n = vs'.length
        · rw [hm, hn]
        · rw [if_pos hm] at z1
          rw [if_neg hn] at z2
          exact absurd z1 (dis b (k7 n b z2.2).1)
      · rw [if_neg hm] at z1
        by_cases hn : n = vs'.length
        · rw [if_pos hn] at z2
          exact absurd z2 (dis b (k7 m b z1.2).1)
        · rw [if_neg hn] at z2
          exact k6 m n b z1.2 z2.2
    · intro m b z
      try dsimp only at z
      by_cases hm : m = vs'.length
      · rw [if_pos hm] at z
        exact ⟨.inr z, nT b z⟩
      · rw [if_neg hm] at z
        exact ⟨.inl (k7 m b z.2).1, (k7 m b z.2).2⟩
end
/-- x.f = e -/
def sFldN (c f : Str) (i : Nat) (g : NM) : SM := fun e => (g e).out fun o e1 => (insAt c e1 i).elim .no fun p => if p.1.length < 1000 then .nx (e1.set i (some (putO c f o p.1 p.2))) else .no
section
variable {X : Cx} {W : WX} {e : Expr} {g : NM} {ks : List Nat} {pos : Pos}
theorem s_fldN (i : Nat) {c f x : Str} {C : Addr} {np tp : Pos} (hg : DN X W e g) (hC : X.mg c = some (.ref C)) (hc : Cls X.K C) (ha : NoAttr X.K C f) (hN : X.N[i]? = some x := by rfl) (hv : Vis X.env.scope x := by first | exact Or.inl rfl | exact Or.inr (Or.inl rfl) | exact Or.inr (Or.inr rfl)) (hd : (x == ("__debug__" : Str)) = false := by decide)
    (hcd : (x == ("__classdict__" : Str)) = false := by decide) (hs : swapsWith e (some (.Attribute (.Name x np) f tp)) pos.line X.env = pure false := by rfl) : DS X W ks (.Assign [.Attribute (.Name x np) f tp] e pos) (sFldN c f i g) := by
  refine weakS (ps_fld (pe_var hN hv hd hcd) hg hs) fun D σ H ⟨G, F, env, hk, j, p⟩ => ?_
  refine ⟨G, F, env, j, ?_⟩
  have p : PostS X W G F D ((g env).out fun o e1 => (insAt c e1 i).elim .no fun p => if p.1.length < 1000 then .nx (e1.set i (some (putO c f o p.1 p.2))) else .no) := p
  cases hf : g env with
  | no => rw [hf] at p; exact p.elim
  | exc c2 e2 =>
    rw [hf] at p
    exact fun F' H' C hc s j' => p F' σ H' C hc s j'
  | ok o e1 =>
    rw [hf] at p
    have p : PostS X W G F D ((insAt c e1 i).elim .no fun p => if p.1.length < 1000 then .nx (e1.set i (some (putO c f o p.1 p.2))) else .no) := p
    cases he : insAt c e1 i with
    | none => rw [he] at p; exact p.elim
    | some q =>
      obtain ⟨fs, xs⟩ := q
      rw [he] at p
      have p : PostS X W G F D (if fs.length < 1000 then .nx (e1.set i (some (putO c f o fs xs))) else .no) := p
      by_cases hl : fs.length < 1000
      case neg => rw [if_neg hl] at p; exact p.elim
      rw [if_pos hl] at p
      intro F' H' v s j'
      obtain ⟨a, C', dx, vs, k1, k2, k3, k4, k5⟩ := j'.intoF (f := f) (insAt_some he)
      rw [hC] at k2
      cases k2
      refine ⟨.ref a, k1, a, C, dx, _, rfl, k3, hc, ha, ?_, p F' σ _ s ⟨k5, j.io⟩⟩
      rw [List.length_zip]
      exact Nat.lt_of_le_of_lt (Nat.min_le_left _ _) hl
end
end Ly

set_option Elab.async false
set_option linter.all false
set_option maxRecDepth 100000
set_option maxHeartbeats 4000000
set_option autoImplicit false
namespace Ly
open PySem PySem.Spec L2
/-! ## a field that is an owned list -/
section
variable {K : PySem.W.Frag} {mg : MG} {F H : Hp} {S : Addr → Prop}
theorem Rep.fld_put {v : V} {c f : Str} {fs : List Str} {xs : List O} {o : O} (h : Rep K mg F H S v (.nd (.ins c fs) xs)) (hf : fldO f fs xs = some o) :
    ∃ (a C dx : Addr) (vs : List V) (w : V) (T : Addr → Prop), v = .ref a ∧ mg c = some (.ref C) ∧ H a = some (.ins C dx (fs.zip vs)) ∧ (fs.zip vs).lookup f = some w ∧ Rep K mg F H T w o ∧
      ∀ (b : Addr) (ho : HO) (o' : O), w = .ref b → (∀ T, Rep K mg F H T w o → T b ∧ Rep K mg F (upd H b ho) T w o') → S b ∧ Rep K mg F (upd H b ho) S v (putO c f o' fs xs) := by
  obtain ⟨a, C, dx, vs, Sf, rfl, h0, h1, h2, h3, sa, sd, h4, h5, h6, h7⟩ := h.ins
  unfold fldO at hf
  cases hk : fIx f fs with
  | none => rw [hk] at hf; cases hf
  | some k =>
    rw [hk] at hf
    have hf : xs[k]? = some o := hf
    have hl : k < vs.length := by rw [← h2]; exact fIx_lt hk
    have hv : vs[k]? = some vs[k] := List.getElem?_eq_getElem hl
    refine ⟨a, C, dx, vs, vs[k], Sf k, rfl, h0, h1, by rw [lookup_ix, hk]; exact hv, h5 k _ _ hv hf, fun b ho o' eb q => ?_⟩
    obtain ⟨kb, kr⟩ := q _ (h5 k _ _ hv hf)
    obtain ⟨y1, y2, y3⟩ := h7 k b kb
    refine ⟨y1, ?_⟩
    unfold putO
    rw [hk]
    refine .ins_mk (vs := vs) (Sf := Sf) h0 (by rw [upd_ne (Ne.symm y2)]; exact h1) h2 (by rw [upd_ne (Ne.symm y3)]; exact h3) sa sd (by rw [List.length_set]; exact h4) (fun m w x z1 z2 => ?_) h6 h7
    by_cases hm : k = m
    · subst hm
      rw [List.getElem?_set_self (by omega)] at z2
      rw [hv] at z1
      cases z1
      cases z2
      exact kr
    · rw [List.getElem?_set_ne hm] at z2
      refine (h5 m w x z1 z2).frame (Same.refl F) fun d u g y => ?_
      rw [upd_ne fun z => hm (h6 k m b kb (by rw [← z]; exact g))]
      exact y
end
/-- the owned list in the field f of the instance in slot i -/
def fLst (c f : Str) (i : Nat) (e : Ev) : Option (List O) := (insAt c e i).bind fun p => lstC (fldO f p.1 p.2)
def putF2 (c f : Str) (i : Nat) (ys : List O) (e : Ev) : Ev := match insAt c e i with
  | some p => e.set i (some (putO c f (.nd .lst ys) p.1 p.2))
  | none => e
def datAt : Option O → Option PyData
  | some (.fr d) => some d
  | _ => none
theorem datAt_some {o : Option O} {d : PyData} (h : datAt o = some d) : o = some (.fr d) := by
  unfold datAt at h
  split at h
  · cases h; rfl
  · cases h
def pFIx (c f : Str) (i : Nat) (p : PM) : PM := fun e => (fLst c f i e).bind fun ys => ((p e).bind intD).bind fun z => (ixN ys.length z).bind fun k => datAt ys[k]?
def eFIx (c f : Str) (i : Nat) (p : PM) : EM := fun e => (pFIx c f i p e).elim .no fun d => .ok d e
theorem fLst_some {c f : Str} {i : Nat} {e : Ev} {ys : List O} (h : fLst c f i e = some ys) : ∃ fs xs, insAt c e i = some (fs, xs) ∧ fldO f fs xs = some (.nd .lst ys) := by
  unfold fLst at h
  cases hi : insAt c e i with
  | none => rw [hi] at h; cases h
  | some p =>
    obtain ⟨fs, xs⟩ := p
    rw [hi] at h
    exact ⟨fs, xs, rfl, lstC_some h⟩
theorem pFIx_some {c f : Str} {i : Nat} {p : PM} {e : Ev} {d : PyData} (h : pFIx c f i p e = some d) : ∃ (ys : List O) (z : Int) (k : Nat), fLst c f i e = some ys ∧ p e = some (.int z) ∧ ixN ys.length z = some k ∧ ys[k]? = some (.fr d) := by
  unfold pFIx at h
  cases h1 : fLst c f i e with
  | none => rw [h1] at h; cases h
  | some ys =>
    rw [h1] at h
    cases h2 : p e with
    | none => rw [h2] at h; cases h
    | some y =>
      cases h3 : intD y with
      | none => rw [h2] at h; simp only [Option.bind_some, h3] at h; cases h
      | some z =>
        rw [h2] at h
        simp only [Option.bind_some, h3] at h
        cases h4 : ixN ys.length z with
        | none => rw [h4] at h; cases h
        | some k =>
          rw [h4] at h
          have h := datAt_some (show datAt ys[k]? = some d from h)
          have := intD_some h3
          subst this
          exact ⟨ys, z, k, rfl, rfl, h4, h⟩
section
variable {X : Cx} {W : WX} {pos : Pos}
theorem canFIx {i : Nat} {c f : Str} {C : Addr} {p : PM} (hC : X.mg c = some (.ref C)) (hc : Cls X.K C) (ha : NoAttr X.K C f) {G : Gd} {F : Hp} {env : Ev} {σ : St} {H : Hp} {d : PyData} {Q : VK} (j : J X.K X.mg G F env σ H) (e : pFIx c f i p env = some d) (k : ∀ v, Fz X.K F v d → Q v H) :
    ∃ v, σ[i]? = some (some v) ∧ ∃ a C' dx fs w, v = .ref a ∧ H a = some (.ins C' dx fs) ∧ Cls X.K C' ∧ NoAttr X.K C' f ∧ fs.lookup f = some w ∧ canP X p σ H fun y H2 => ∃ (l : Addr) (vs : List V) (z : Int) (u : V), w = .ref l ∧ y = .int z ∧ SqL X.K H2 l vs ∧ atI vs z = some u ∧ Q u H2 := by
  obtain ⟨ys, z, m, h1, h2, h3, h4⟩ := pFIx_some e
  obtain ⟨fs, xs, h5, h6⟩ := fLst_some h1
  obtain ⟨S, v, g1, g2, _⟩ := j.row (insAt_some h5)
  obtain ⟨a, C', dx, vs, w, T, rfl, k0, k1, k2, k3, _⟩ := fld_get g2 h6
  rw [hC] at k0
  cases k0
  obtain ⟨l, ws, Sf, rfl, q3, q4, q5, q6, q7, q8⟩ := k3.lst
  refine ⟨_, g1, a, C, dx, _, _, rfl, k1, hc, ha, k2, G, F, env, _, j, h2, fun y fy => ?_⟩
  cases fy
  have hm : m < ws.length := by
    have := (List.getElem?_eq_some_iff.mp h4).1
    omega
  have hw : ws[m]? = some ws[m] := List.getElem?_eq_getElem hm
  have r := q6 m _ _ hw h4
  generalize ws[m] = u at r hw
  cases r with
  | fr fz => exact ⟨l, ws, z, u, rfl, rfl, SqL.of q3, by unfold atI; rw [q5, h3]; exact hw, k _ fz⟩
theorem d_fix (i : Nat) {c f x : Str} {C : Addr} {np ap : Pos} {b : Expr} {p : PM} (hC : X.mg c = some (.ref C)) (hc : Cls X.K C) (ha : NoAttr X.K C f) (hb : DP X b p) (hN : X.N[i]? = some x := by rfl) (hv : Vis X.env.scope x := by first | exact Or.inl rfl | exact Or.inr (Or.inl rfl) | exact Or.inr (Or.inr rfl))
    (hd : (x == ("__debug__" : Str)) = false := by decide) (hcd : (x == ("__classdict__" : Str)) = false := by decide) (hba : attributeBase (.Name x np) f X.env (eval (.Name x np) X.env) = eval (.Name x np) X.env := by rfl) (hp : PlainIx b := by exact fun _ _ => rfl) : DE X W (.Subscript (.Attribute (.Name x np) f ap) b pos) (eFIx c f i p) := by
  refine weakE (pe_ix ix_list (pe_fld (pe_var hN hv hd hcd) hba) hb hp) fun σ H Q ⟨G, F, env, j, q⟩ => ?_
  unfold eFIx at q
  cases he : pFIx c f i p env with
  | none => rw [he] at q; exact q.elim
  | some d =>
    rw [he] at q
    exact canFIx hC hc ha j he fun v fv => q F H (Same.refl F) j v fv
theorem p_fix (i : Nat) {c f x : Str} {C : Addr} {np ap : Pos} {b : Expr} {p : PM} (hC : X.mg c = some (.ref C)) (hc : Cls X.K C) (ha : NoAttr X.K C f) (hb : DP X b p) (hN : X.N[i]? = some x := by rfl) (hv : Vis X.env.scope x := by first | exact Or.inl rfl | exact Or.inr (Or.inl rfl) | exact Or.inr (Or.inr rfl))
    (hd : (x == ("__debug__" : Str)) = false := by decide) (hcd : (x == ("__classdict__" : Str)) = false := by decide) (hba : attributeBase (.Name x np) f X.env (eval (.Name x np) X.env) = eval (.Name x np) X.env := by rfl) (hp : PlainIx b := by exact fun _ _ => rfl) : DP X (.Subscript (.Attribute (.Name x np) f ap) b pos) (pFIx c f i p) :=
  weakE (pe_ix ix_list (pe_fld (pe_var hN hv hd hcd) hba) hb hp) fun σ H Q ⟨G, F, env, d, j, e, k⟩ => canFIx hC hc ha j e k
end
/-- x.f[b] = e -/
def sFIx (c f : Str) (i : Nat) (p : PM) (fv : EM) : SM := fun e => (fv e).out fun d e1 => (fLst c f i e1).elim .no fun ys => ((p e1).bind intD).elim .no fun z => (ixN ys.length z).elim .no fun k => .nx (putF2 c f i (ys.set k (.fr d)) e1)
theorem s_fix (i : Nat) {X : Cx} {W : WX} {ks : List Nat} {c f x : Str} {C : Addr} {np ap pos tpos : Pos} {b e : Expr} {p : PM} {fv : EM} (hv' : DE X W e fv) (hC : X.mg c = some (.ref C)) (hc : Cls X.K C) (ha : NoAttr X.K C f) (hb : DP X b p) (hN : X.N[i]? = some x := by rfl) (hv : Vis X.env.scope x := by first | exact Or.inl rfl | exact Or.inr (Or.inl rfl) | exact Or.inr (Or.inr rfl))
    (hd : (x == ("__debug__" : Str)) = false := by decide) (hcd : (x == ("__classdict__" : Str)) = false := by decide) (hba : attributeBase (.Name x np) f X.env (eval (.Name x np) X.env) = eval (.Name x np) X.env := by rfl)
    (hg : ∀ v, assign (.Subscript (.Attribute (.Name x np) f ap) b tpos) X.env v = (do
      let ov ← holding [v] (eval (.Attribute (.Name x np) f ap) X.env)
      let iv ← holding [v, ov] (eval b X.env)
      standAt tpos
      holding [v, ov, iv] (setItem ov iv v)
      release [v, ov, iv] []) := by intro _; rfl)
    (hs : swapsWithSole [.Subscript (.Attribute (.Name x np) f ap) b tpos] e pos.line X.env = pure false := by rfl) (hw : swappedStores [.Subscript (.Attribute (.Name x np) f ap) b tpos] e X.env = pure none := by rfl)
    (h1 : (assignEach [.Subscript (.Attribute (.Name x np) f ap) b tpos] X.env).map (·.2) = [assign (.Subscript (.Attribute (.Name x np) f ap) b tpos) X.env] := by rfl) : DS X W ks (.Assign [.Subscript (.Attribute (.Name x np) f ap) b tpos] e pos) (sFIx c f i p fv) := by
  refine weakS (ps_asg hv' (pg_sub (pe_fld (pe_var hN hv hd hcd) hba) hb set_list hg) hs hw h1) fun D σ H ⟨G, F, env, hk, j, q⟩ => ?_
  refine ⟨G, F, env, j, (PostS.out q).imp fun d F1 H1 s1 ⟨e1, j1, p2⟩ y fy => ?_⟩
  cases hl : fLst c f i e1 with
  | none => rw [hl] at p2; exact p2.elim
  | some ys =>
    cases hz : (p e1).bind intD with
    | none => rw [hl, hz] at p2; exact p2.elim
    | some z =>
      cases hk2 : ixN ys.length z with
      | none => rw [hl, hz] at p2; simp only [Option.elim_some, hk2] at p2; exact p2.elim
      | some k =>
        rw [hl, hz] at p2
        simp only [Option.elim_some, hk2] at p2
        obtain ⟨fs, xs, h5, h6⟩ := fLst_some hl
        obtain ⟨S, v, g1, g2, _⟩ := j1.row (insAt_some h5)
        obtain ⟨a, C', dx, vs, w, T, rfl, k0, k1, k2, k3, _⟩ := g2.fld_put h6
        rw [hC] at k0
        cases k0
        obtain ⟨l, ws, Sf, rfl, q3, q4, q5, q6, q7, q8⟩ := k3.lst
        cases hpa : p e1 with
        | none => rw [hpa] at hz; cases hz
        | some da =>
          rw [hpa] at hz
          have hz := intD_some hz
          subst hz
          refine ⟨_, g1, a, C, dx, _, _, rfl, k1, hc, ha, k2, G, F1, e1, _, j1, hpa, fun w2 fw2 => ?_⟩
          cases fw2
          have hkw := (ixN_seq hk2).2.1
          refine ⟨l, ws, z, k, rfl, rfl, q3, by rw [q5]; exact hk2, p2 F1 σ _ (Same.refl F1) ?_⟩
          unfold putF2
          rw [h5]
          refine j1.put (insAt_some h5) g1 fun S3 w6 => ?_
          obtain ⟨a', C2, dx2, vs2, w2, T2, ea, m0, m1, m2, m3, m4⟩ := w6.fld_put h6
          cases ea
          rw [k1] at m1
          have em := Option.some.inj m1
          injection em with e1 e2 e3
          rw [← e3, k2] at m2
          cases m2
          refine m4 l _ _ rfl fun T3 w7 => ?_
          obtain ⟨b', vs3, Sf3, eb, z3, z4, _⟩ := w7.lst
          cases eb
          refine ⟨z4, w7.lst_upd (by rw [List.length_set, List.length_set, q5]) fun vs4 y1 y2 i2 v2 o2 u1 u2 => ?_⟩
          rw [q3] at y1
          cases y1
          by_cases hi : k = i2
          · subst hi
            rw [List.getElem?_set_self (by omega)] at u1
            rw [List.getElem?_set_self (by omega)] at u2
            cases u1
            cases u2
            exact .inr ⟨d, rfl, fy⟩
          · rw [List.getElem?_set_ne hi] at u1 u2
            exact .inl ⟨u1, u2⟩
/-! ## range with a step of -1 -/
def rngD (a b : Int) : List PyData := (List.range (a - b).toNat).map fun (i : Nat) => PyData.int (a - i)
def rng3 : List PyData → Option (List PyData)
  | [.int i, .int j, .int c] => if bnd62 i && bnd62 j && decide (c = -1) then some (rngD i j) else none
  | _ => none
section
variable {X : Cx} {W : WX} {tg : Expr}
theorem walks_down {K : PySem.W.Frag} {F H : Hp} {i : Int} {n : Nat} : Walks K (Itc i (-1) n) F H ((List.range n).map fun (k : Nat) => PyData.int (i - k)) := by
  intro F' H' s hs i2
  refine ⟨fun d hd => ?_, fun hl => ?_⟩
  · have hl : i2 < n := by
      have := (List.getElem?_eq_some_iff.mp hd).1
      rw [List.length_map, List.length_range] at this
      exact this
    rw [List.getElem?_map, List.getElem?_range hl] at hd
    cases hd
    refine ⟨hl, fun x H'' y => ?_⟩
    obtain ⟨rfl, rfl⟩ := y
    refine ⟨F', .refl, ?_⟩
    have : i + (i2 : Int) * (-1) = i - i2 := by omega
    show Fz K F' (.int (i + (i2 : Nat) * (-1))) (.int (i - i2))
    rw [this]
    exact .int _
  · rw [List.length_map, List.length_range] at hl
    exact hl
theorem i_r3 {a b c : Expr} {m : LM} {p pos : Pos} (hm : X.mg "range" = none) (ha : DL X W [a, b, c] m) (hg : Gl X "range" := by rfl) (hs : starEach [a, b, c] X.env = (false, eval a X.env) :: starEach [b, c] X.env := by rfl) (hpl : (backTo pos (starEach [b, c] X.env)).any (·.1) = false := by rfl) :
    DI X W tg (.Call (.Name "range" p) [a, b, c] [] pos) (iL rng3 m) := by
  refine weakI (pi_range3 hg hm ha hs hpl) fun σ H R ⟨G, F, env, j, h⟩ => ?_
  refine ⟨G, F, env, j, h.bind.imp fun xs F1 H1 s1 ⟨e1, j1, p2⟩ vs fv => ?_⟩
  have key : ∀ i k z : Int, xs = [.int i, .int k, .int z] → ∃ (i j c : Int) (n : Nat), vs = [.int i, .int j, .int c] ∧ RgC i j c n ∧ R (Itc i c n) H1 := fun i k z e => by
    subst e
    cases fv with
    | cons f1 f2 =>
      cases f1
      cases f2 with
      | cons f3 f4 =>
        cases f3
        cases f4 with
        | cons f5 f6 =>
          cases f5
          cases f6
          unfold rng3 at p2
          by_cases hb : (bnd62 i && bnd62 k && decide (z = -1)) = true
          · simp only [hb, if_true] at p2
            simp only [Bool.and_eq_true, decide_eq_true_eq] at hb
            obtain ⟨⟨b1, b2⟩, b3⟩ := hb
            subst b3
            exact ⟨i, k, -1, (i - k).toNat, rfl, .neg (bnd_of b1).1 (bnd_of b1).2 (bnd_of b2).1 (bnd_of b2).2, p2 F1 H1 (Same.refl F1) j1 _ walks_down⟩
          · simp only [hb] at p2
            exact p2.elim
  cases hr : rng3 xs with
  | none => rw [hr] at p2; exact p2.elim
  | some ds =>
    unfold rng3 at hr
    split at hr
    · exact key _ _ _ rfl
    · cases hr
end
end Ly

set_option Elab.async false
set_option linter.all false
set_option maxRecDepth 100000
set_option maxHeartbeats 4000000
set_option autoImplicit false
namespace Ly
open PySem PySem.Spec L2
/-! ## methods, makers -/
def tMethS (C : Addr) (m : Str) (sp : Sp) (E : St → XK) (ta : TE) (t : TA) : TE := fun σ H Q => ta σ H fun x H1 => ∃ a dx fs, x = .ref a ∧ H1 a = some (.ins C dx fs) ∧ fs.lookup m = none ∧ t σ H1 fun vs H2 => sp (x :: vs) H2 Q (E σ)
section
variable {X : Cx} {CX : CXT} {k : Nat} {g C : Addr} {fd : FuncData} {ps : List Str} {sp : Sp} {E : St → XK} {m x : Str} {p pos apos : Pos} {e o : Expr} {es : List Expr} {ta : TE} {t : TA}
theorem q_meth {pl : Sem Bool} (ho : PE X o ta) (cl : Cls X.K C) (mt : Meth X.K C m g) (fn : FnOk X.prog X.w X.K X.mg X.base CX k g fd ps sp) (rm : Room k X.A) (bd : Binds X.K fd ps []) (px : ∀ σ, PassesAt CX X σ (E σ)) (ar : PA X (e :: es) t)
    (h1 : starEach (e :: es) X.env = (false, eval e X.env) :: starEach es X.env := by rfl) (h2 : (backTo pos (starEach es X.env)).any (·.1) = false := by rfl)
    (h3 : eval (.Call (.Attribute o m apos) (e :: es) [] pos) X.env = (do
      let w ← eval o X.env
      standAt apos.atName
      let (g, fst) ← holding [w] (getMethod w m pl)
      callWith pos g fst (backTo pos (starEach (e :: es) X.env)) (backToKw pos (keywordEach [] X.env))) := by rfl) : PE X (.Call (.Attribute o m apos) (e :: es) [] pos) (tMethS C m sp E ta t) := by
  constructor
  intro pins s σ H Q I h
  refine PySem.W.methodCall_KW (pl := pl) (thn (ho.run pins s σ H _ I h) ?_) h3
  rintro u s1 ⟨y, H1, I1, ry, a, dx, fs, rfl, ea, l, q⟩
  cases (show u = Value.ref a from ry)
  refine getmeth_ok I1 ea cl mt l (PySem.W.callWith_K (first := [.ref a]) (h₀ := X.base) I.ok.mod.kin mt.kp (thn (ar.run pos pins s1 σ H1 _ I1 q) ?_) h1 h2)
  rintro us s2 ⟨vs, H2, I2, r, q2⟩
  exact ⟨I2.kIn, run_fnS (us := .ref a :: us) (vs := .ref a :: vs) fn rm bd (px σ) I2 (.cons rfl r) q2⟩
theorem q_meth0 {pl : Sem Bool} (ho : PE X o ta) (cl : Cls X.K C) (mt : Meth X.K C m g) (fn : FnOk X.prog X.w X.K X.mg X.base CX k g fd ps sp) (rm : Room k X.A) (bd : Binds X.K fd ps []) (px : ∀ σ, PassesAt CX X σ (E σ))
    (h3 : eval (.Call (.Attribute o m apos) [] [] pos) X.env = (do
      let w ← eval o X.env
      standAt apos.atName
      let (g, fst) ← holding [w] (getMethod w m pl)
      callWith pos g fst (backTo pos (starEach [] X.env)) (backToKw pos (keywordEach [] X.env))) := by rfl) : PE X (.Call (.Attribute o m apos) [] [] pos) (tMethS C m sp E ta tNil) := by
  constructor
  intro pins s σ H Q I h
  refine PySem.W.methodCall_KW (pl := pl) (thn (ho.run pins s σ H _ I h) ?_) h3
  rintro u s1 ⟨y, H1, I1, ry, a, dx, fs, rfl, ea, l, q⟩
  cases (show u = Value.ref a from ry)
  exact getmeth_ok I1 ea cl mt l (PySem.W.callWith_K0 (first := [.ref a]) I1.kIn mt.kp (run_fnS (us := [.ref a]) (vs := [.ref a]) fn rm bd (px σ) I1 (.cons rfl .nil) q))
/-- C(..), its exceptions at the slots -/
def tMakeS (C : Addr) (sp : Sp) (E : St → XK) (t : TA) : TE := fun σ H Q => t σ H fun vs H1 => ∀ x dx, H1 x = none → H1 dx = none → dx ≠ x → sp (.ref x :: vs) (upd (upd H1 dx (.own x)) x (.ins C dx [])) (fun v H2 => v = .non ∧ Q (.ref x) H2) (E σ)
theorem q_run {pins : List (Addr × Obj)} {σ : St} {H : Hp} {s : Shared} {Q : VK} {us : List Value} {vs : List V} (M : Mk X.K C g) (fn : FnOk X.prog X.w X.K X.mg X.base CX k g fd ps sp) (rm : Room (k + 1) X.A) (bd : Binds X.K fd ps []) (px : PassesAt CX X σ (E σ)) (I : Inv X pins σ H s) (r : Vals vs us)
    (h : ∀ x dx, H x = none → H dx = none → dx ≠ x → sp (.ref x :: vs) (upd (upd H dx (.own x)) x (.ins C dx [])) (fun v H2 => v = .non ∧ Q (.ref x) H2) (E σ)) : wpAny (model X.prog X.w) X.A (call (.ref C) us) (EP X pins σ Q) X.xe s := by
  generalize hn : s.heap.objs.size = n
  have q := h (n + 1) n (I.hok.fresh (by rw [hn]; exact Nat.le_succ _)) (I.hok.fresh (Nat.le_of_eq hn)) (Nat.ne_of_lt (Nat.lt_succ_self n))
  subst hn
  have I2 := Inv.made (C := C) I
  have r2 : Vals (V.ref (s.heap.objs.size + 1) :: vs) (Value.ref (s.heap.objs.size + 1) :: us) := .cons rfl r
  have b := bd _ (Value.ref (s.heap.objs.size + 1) :: us) I2.kIn (by rw [List.append_nil, ← r2.length]; exact fn.len _ _ _ _ q)
  rw [List.append_nil] at b
  refine wpAny_call (make_map (f := g) I.kIn M.makes M.init (beq_iff_eq.mp M.fn) (codeAny_mono (fn.run _ X.stack _ _ _ _ _ _ (E σ) (rm.make C us []) (I2.env0.make C us []) b r2 q) ?_))
  intro rs s' c
  match rs, c with
  | .error e, c => exact px pins _ _ e s' I2 c
  | .ok (.ret u), c =>
    obtain ⟨v, H', I3, rv, ev, q3⟩ := I2.after c
    cases ev
    exact ⟨rv, V.ref (s.heap.objs.size + 1), H', I3, rfl, q3⟩
  | .ok .next, c => exact (show False from c).elim
  | .ok .brk, c => exact (show False from c).elim
  | .ok .cont, c => exact (show False from c).elim
theorem q_make (M : Mk X.K C g) (fn : FnOk X.prog X.w X.K X.mg X.base CX k g fd ps sp) (rm : Room (k + 1) X.A) (hm : X.mg x = some (.ref C)) (bd : Binds X.K fd ps []) (px : ∀ σ, PassesAt CX X σ (E σ)) (ar : PA X (e :: es) t) (hg : Gl X x := by rfl) (hdb : (x == ("__debug__" : Str)) = false := by decide)
    (h1 : starEach (e :: es) X.env = (false, eval e X.env) :: starEach es X.env := by rfl) (h2 : (backTo pos (starEach es X.env)).any (·.1) = false := by rfl) : PE X (.Call (.Name x p) (e :: es) [] pos) (tMakeS C sp E t) := by
  constructor
  intro pins s σ H Q I h
  refine wpAny_Call_Name_kw (ld_glob I hg hm (PySem.W.callWith_K (h₀ := X.base) I.ok.mod.kin M.kp (thn (ar.run pos pins s σ H _ I h) ?_) h1 h2) hdb)
  rintro us s1 ⟨vs, H1, I1, r, q⟩
  exact ⟨I1.kIn, q_run M fn rm bd (px σ) I1 r q⟩
theorem q_make0 (M : Mk X.K C g) (fn : FnOk X.prog X.w X.K X.mg X.base CX k g fd ps sp) (rm : Room (k + 1) X.A) (hm : X.mg x = some (.ref C)) (bd : Binds X.K fd ps []) (px : ∀ σ, PassesAt CX X σ (E σ)) (hg : Gl X x := by rfl) (hdb : (x == ("__debug__" : Str)) = false := by decide) : PE X (.Call (.Name x p) [] [] pos) (tMakeS C sp E tNil) := by
  constructor
  intro pins s σ H Q I h
  exact wpAny_Call_Name_kw (ld_glob I hg hm (PySem.W.callWith_K0 I.kIn M.kp (q_run (us := []) M fn rm bd (px σ) I .nil h)) hdb)
end
/-! ### o.m(..), o a name -/
def insC (c m : Str) (e : Ev) (i : Nat) : Bool := match insAt c e i with
  | some p => (fIx m p.1).isNone
  | none => false
def eMeth (c m : Str) (i n : Nat) (ks : List Nat) (fn : FM) (l : AM) : EM := fun e => if insC c m e i = true then eCall n ks fn (aIo i l) e else .no
theorem canMeth {X : Cx} {W : WX} {c m : Str} {C : Addr} {i n : Nat} {ks : List Nat} {fn : FM} {l : AM} (hC : X.mg c = some (.ref C)) (hks : ∀ k ∈ ks, k < n) (σ : St) (H : Hp) (Q : VK) (h : canE X W (eMeth c m i n ks fn l) σ H Q) : tMethS C m (spD X.K X.mg n ks fn) (WE W) (tVar i) (canA X W l) σ H Q := by
  obtain ⟨G, F, env, j, p⟩ := h
  unfold eMeth at p
  by_cases hi : insC c m env i = true
  case neg => rw [if_neg hi] at p; exact p.elim
  rw [if_pos hi] at p
  unfold insC at hi
  cases ha : insAt c env i with
  | none => rw [ha] at hi; cases hi
  | some q =>
    obtain ⟨fs, xs⟩ := q
    rw [ha] at hi
    have hf : fIx m fs = none := Option.isNone_iff_eq_none.mp hi
    have ei := insAt_some ha
    obtain ⟨S, v, g1, g2, _⟩ := j.row ei
    obtain ⟨a, C', dx, vs, Sf, rfl, h0, h1, h2, _⟩ := g2.ins
    rw [hC] at h0
    cases h0
    refine ⟨_, g1, a, dx, _, rfl, h1, by rw [lookup_ix, hf]; rfl, G, F, env, j, ?_⟩
    have c0 : canE X W (eCall n ks fn (aIo i l)) σ H Q := ⟨G, F, env, j, p⟩
    have p : PostR X W G F σ (fun d F' H' => ∀ v, Fz X.K F' v d → Q v H') (((aIo i l) env).bind fun its e1 => match argsOf e1 its with
      | some os => if its.length = n ∧ ndIo its = true then (match fn os with
        | .ret d fin => .ok d (backA ks fin 0 its e1)
        | .exc c fin => .exc c (backA ks fin 0 its e1)
        | .no => .no) else .no
      | none => .no) := p
    have e0 : aIo i l env = (l env).bind fun xs e2 => .ok (.inr i :: xs) e2 := by
      unfold aIo
      rw [ei]
    rw [e0, Res.bind_bind] at p
    refine p.bind.imp fun its F1 H1 s1 ⟨e1, j1, p2⟩ vs iv => ?_
    have p2 : PostR X W G F1 σ (fun d F' H' => ∀ v, Fz X.K F' v d → Q v H') (match argsOf e1 (.inr i :: its) with
      | some os => if its.length + 1 = n ∧ ndIo (.inr i :: its) = true then (match fn os with
        | .ret d fin => .ok d (backA ks fin 0 (.inr i :: its) e1)
        | .exc c fin => .exc c (backA ks fin 0 (.inr i :: its) e1)
        | .no => .no) else .no
      | none => .no) := p2
    cases hq : argsOf e1 (.inr i :: its) with
    | none => rw [hq] at p2; exact p2.elim
    | some os =>
      rw [hq] at p2
      have p2 : PostR X W G F1 σ (fun d F' H' => ∀ v, Fz X.K F' v d → Q v H') (if its.length + 1 = n ∧ ndIo (.inr i :: its) = true then (match fn os with
        | .ret d fin => .ok d (backA ks fin 0 (.inr i :: its) e1)
        | .exc c fin => .exc c (backA ks fin 0 (.inr i :: its) e1)
        | .no => .no) else .no) := p2
      by_cases hc : its.length + 1 = n ∧ ndIo (.inr i :: its) = true
      case neg => rw [if_neg hc] at p2; exact p2.elim
      rw [if_pos hc] at p2
      refine callCore hks j1 (.inr g1 iv) hq hc.1 hc.2 ?_
      cases hfn : fn os with
      | ret d fin =>
        rw [hfn] at p2
        exact fun F' H' v s f fz => p2 F' H' s f v fz
      | exc c fin =>
        rw [hfn] at p2
        exact fun F' H' C hC s f => p2 F' H' C hC s f
      | no => rw [hfn] at p2; exact p2.elim
theorem canNil {X : Cx} {W : WX} {σ : St} {H : Hp} {Q : List V → Hp → Prop} (h : canA X W (fun e => .ok [] e) σ H Q) : tNil σ H Q := by
  obtain ⟨G, F, env, j, p⟩ := h
  exact p F H (Same.refl F) j [] .nil
section
variable {X : Cx} {W : WX} {pos : Pos}
theorem d_meth (i : Nat) {k n : Nat} {g C : Addr} {fd : FuncData} {ps : List Str} {ks : List Nat} {fn : FM} {c m x : Str} {np apos : Pos} {e : Expr} {es : List Expr} {l : AM} {pl : Sem Bool} (F : FnOk X.prog X.w X.K X.mg X.base (L2.CX X.prog X.w) k g fd ps (spD X.K X.mg n ks fn)) (hr : Room k X.A) (tk : Takes X W)
    (hC : X.mg c = some (.ref C)) (hc : Cls X.K C) (mt : Meth X.K C m g) (hb : Binds X.K fd ps []) (ha : DA X W (e :: es) l) (hks : ∀ k ∈ ks, k < n := by decide) (hN : X.N[i]? = some x := by rfl) (hv : Vis X.env.scope x := by first | exact Or.inl rfl | exact Or.inr (Or.inl rfl) | exact Or.inr (Or.inr rfl))
    (hd : (x == ("__debug__" : Str)) = false := by decide) (hcd : (x == ("__classdict__" : Str)) = false := by decide)
    (h1 : starEach (e :: es) X.env = (false, eval e X.env) :: starEach es X.env := by rfl) (h2 : (backTo pos (starEach es X.env)).any (·.1) = false := by rfl)
    (h3 : eval (.Call (.Attribute (.Name x np) m apos) (e :: es) [] pos) X.env = (do
      let w ← eval (.Name x np) X.env
      standAt apos.atName
      let (g, fst) ← holding [w] (getMethod w m pl)
      callWith pos g fst (backTo pos (starEach (e :: es) X.env)) (backToKw pos (keywordEach [] X.env))) := by rfl) :
    DE X W (.Call (.Attribute (.Name x np) m apos) (e :: es) [] pos) (eMeth c m i n ks fn l) := weakE (q_meth (pe_var hN hv hd hcd) hc mt F hr hb (fun σ => passAt tk σ) ha h1 h2 h3) (canMeth hC hks)
theorem d_meth0 (i : Nat) {k n : Nat} {g C : Addr} {fd : FuncData} {ps : List Str} {ks : List Nat} {fn : FM} {c m x : Str} {np apos : Pos} {pl : Sem Bool} (F : FnOk X.prog X.w X.K X.mg X.base (L2.CX X.prog X.w) k g fd ps (spD X.K X.mg n ks fn)) (hr : Room k X.A) (tk : Takes X W)
    (hC : X.mg c = some (.ref C)) (hc : Cls X.K C) (mt : Meth X.K C m g) (hb : Binds X.K fd ps []) (hks : ∀ k ∈ ks, k < n := by decide) (hN : X.N[i]? = some x := by rfl) (hv : Vis X.env.scope x := by first | exact Or.inl rfl | exact Or.inr (Or.inl rfl) | exact Or.inr (Or.inr rfl))
    (hd : (x == ("__debug__" : Str)) = false := by decide) (hcd : (x == ("__classdict__" : Str)) = false := by decide)
    (h3 : eval (.Call (.Attribute (.Name x np) m apos) [] [] pos) X.env = (do
      let w ← eval (.Name x np) X.env
      standAt apos.atName
      let (g, fst) ← holding [w] (getMethod w m pl)
      callWith pos g fst (backTo pos (starEach [] X.env)) (backToKw pos (keywordEach [] X.env))) := by rfl) :
    DE X W (.Call (.Attribute (.Name x np) m apos) [] [] pos) (eMeth c m i n ks fn fun e => .ok [] e) := weakE (q_meth0 (pe_var hN hv hd hcd) hc mt F hr hb (fun σ => passAt tk σ) h3) fun σ H Q h => by
  obtain ⟨v, g1, a, dx, fs, e1, e2, e3, q⟩ := canMeth (m := m) hC hks σ H Q h
  exact ⟨v, g1, a, dx, fs, e1, e2, e3, canNil q⟩
end
/-! ### a call whose first argument is the last row -/
theorem argsOf_app {o : Option O} : ∀ {its : List Item} {e : Ev} {os : List O}, argsOf e its = some os → argsOf (e ++ [o]) its = some os
  | [], e, os, h => h
  | .inl d :: r, e, os, h => by
    unfold argsOf at h ⊢
    cases hr : argsOf e r with
    | none => rw [hr] at h; cases h
    | some os' => rw [argsOf_app hr]; rw [hr] at h; exact h
  | .inr i :: r, e, os, h => by
    unfold argsOf at h ⊢
    split at h
    · rename_i o' ho
      cases hr : argsOf e r with
      | none => rw [hr] at h; cases h
      | some os' =>
        rw [hr] at h
        rw [List.getElem?_append_left (List.getElem?_eq_some_iff.mp ho).1, ho]
        show (argsOf (e ++ [o]) r).map _ = _
        rw [argsOf_app hr]
        exact h
    · cases h
theorem argsOf_lt {its : List Item} {e : Ev} {os : List O} (h : argsOf e its = some os) : ∀ i, Sum.inr i ∈ its → i < e.length := fun i hi => by
  obtain ⟨j, hj⟩ := List.getElem?_of_mem hi
  obtain ⟨al, ag⟩ := args_get h
  have hl : j < os.length := by
    rw [al]
    exact (List.getElem?_eq_some_iff.mp hj).1
  rcases ag j _ (List.getElem?_eq_getElem hl) with ⟨d, q, _⟩ | ⟨k, q1, q2⟩
  · rw [hj] at q; cases q
  · rw [hj] at q1
    cases q1
    exact (List.getElem?_eq_some_iff.mp q2).1
theorem backA_app {ks : List Nat} {fin : Ev} {o : Option O} : ∀ {its : List Item} {j : Nat} {e : Ev}, (∀ i, Sum.inr i ∈ its → i < e.length) → backA ks fin j its (e ++ [o]) = backA ks fin j its e ++ [o]
  | [], j, e, h => rfl
  | .inl d :: r, j, e, h => backA_app (its := r) fun i hi => h i (List.mem_cons_of_mem _ hi)
  | .inr i :: r, j, e, h => by
    unfold backA
    rw [List.set_append_left _ _ (h i List.mem_cons_self)]
    exact backA_app (its := r) fun k hk => by rw [List.length_set]; exact h k (List.mem_cons_of_mem _ hk)
theorem Itms.app {K : PySem.W.Frag} {F : Hp} {σ : St} {v : Option V} : ∀ {vs : List V} {its : List Item}, Itms K F σ vs its → Itms K F (σ ++ [v]) vs its
  | _, _, .nil => .nil
  | _, _, .inl h t => .inl h (Itms.app t)
  | _, _, .inr h t => .inr (by rw [List.getElem?_append_left (List.getElem?_eq_some_iff.mp h).1]; exact h) (Itms.app t)
def PostL (K : PySem.W.Frag) (mg : MG) (G : Gd) (F : Hp) (σ : St) (v : V) (ks : List Nat) (its : List Item) (e1 : Ev) (Q : VK) (E : XK) : FR → Prop
  | .ret d fin => ∀ F' H' u, Same F F' → J0 K mg G F' (backA ks fin 1 its e1 ++ [if 0 ∈ ks then (fin[0]?).join else none]) (σ ++ [some v]) H' → Fz K F' u d → Q u H'
  | .exc c fin => ∀ F' H' C, mg c = some (.ref C) → Same F F' → J0 K mg G F' (backA ks fin 1 its e1 ++ [if 0 ∈ ks then (fin[0]?).join else none]) (σ ++ [some v]) H' → E (.ref C) none H'
  | .no => False
theorem callLast {K : PySem.W.Frag} {mg : MG} {G : Gd} {F1 H1 : Hp} {e1 : Ev} {σ : St} {n : Nat} {ks : List Nat} {fn : FM} {its : List Item} {os : List O} {vs : List V} {Q : VK} {E : XK} {o : O} {v : V} (hks : ∀ k ∈ ks, k < n) (j : J0 K mg G F1 (e1 ++ [some o]) (σ ++ [some v]) H1) (io : ∀ p ∈ G.io, σ[p.1]? = some (some p.2))
    (iv : Itms K F1 σ vs its) (ha : argsOf e1 its = some os) (hn : its.length + 1 = n) (hnd : ndIo its = true) (hp : PostL K mg G F1 σ v ks its e1 Q E (fn (o :: os))) : spD K mg n ks fn (v :: vs) H1 Q E := by
  have hl : e1.length = σ.length := by
    have := j.len
    simp only [List.length_append, List.length_singleton] at this
    omega
  have lt := argsOf_lt ha
  have jj : J K mg G F1 (e1 ++ [some o]) (σ ++ [some v]) H1 := ⟨j, fun p hp => by rw [List.getElem?_append_left (List.getElem?_eq_some_iff.mp (io p hp)).1]; exact io p hp⟩
  have eb : ∀ fin : Ev, backA ks fin 0 (.inr e1.length :: its) (e1 ++ [some o]) = backA ks fin 1 its e1 ++ [if 0 ∈ ks then (fin[0]?).join else none] := fun fin => by
    show backA ks fin 1 its ((e1 ++ [some o]).set e1.length (if 0 ∈ ks then (fin[0]?).join else none)) = _
    rw [List.set_append_right _ _ (Nat.le_refl _), Nat.sub_self]
    exact backA_app lt
  refine callCore (its := .inr e1.length :: its) (os := o :: os) hks jj (.inr (by rw [hl, List.getElem?_append_right (Nat.le_refl _), Nat.sub_self]; rfl) iv.app) ?_ hn ?_ ?_
  · unfold argsOf
    rw [List.getElem?_append_right (Nat.le_refl _), Nat.sub_self]
    show (argsOf (e1 ++ [some o]) its).map _ = _
    rw [argsOf_app ha]
    rfl
  · unfold ndIo
    rw [hnd, Bool.and_true]
    refine List.all_eq_true.mpr fun t ht => ?_
    cases t with
    | inl d => rfl
    | inr k =>
      have := lt k ht
      show (!decide (k = e1.length)) = true
      rw [decide_eq_false (by omega)]
      rfl
  · cases hf : fn (o :: os) with
    | ret d fin =>
      rw [hf] at hp
      intro F' H' u s jr fz
      refine hp F' H' u s ?_ fz
      rw [← eb]
      exact jr.j0
    | exc c fin =>
      rw [hf] at hp
      intro F' H' C hC s jr
      refine hp F' H' C hC s ?_
      rw [← eb]
      exact jr.j0
    | no => rw [hf] at hp; exact hp.elim
/-! ### C(..) -/
section
variable {K : PySem.W.Frag} {mg : MG} {G : Gd} {F : Hp} {env : Ev} {σ : St} {H : Hp}
/-- new objects as one more row -/
theorem J0.grow {H' : Hp} {N : Addr → Prop} {v : V} {o : O} (j : J0 K mg G F env σ H) (new : ∀ b, N b → H b = none ∧ H' b ≠ none) (old : ∀ b, ¬ N b → H' b = H b) (q : Rep K mg F H' N v o) : J0 K mg G F (env ++ [some o]) (σ ++ [some v]) H' := by
  obtain ⟨Sf, r⟩ := j.ex
  have apart : ∀ i b, Sf i b → ¬ N b := fun i b z w => (r.bnd i b z).2.1 (new b w).1
  have keepS : ∀ b u, H b = some u → H' b = some u := fun b u e => by
    rw [old b fun w => by rw [(new b w).1] at e; cases e]
    exact e
  refine ⟨by rw [List.length_append, List.length_append, j.len]; rfl, ⟨fun i b => if i = env.length then N b else Sf i b, ?_, ?_, ?_⟩, ?_, ?_, j.f0, j.fs⟩
  · intro i o' e
    by_cases hi : i = env.length
    · subst hi
      rw [List.getElem?_append_right (Nat.le_refl _), Nat.sub_self] at e
      have e' : o = o' := by simpa using e
      subst e'
      refine ⟨v, ?_, q.up fun b z => by rw [if_pos rfl]; exact z⟩
      rw [j.len, List.getElem?_append_right (Nat.le_refl _), Nat.sub_self]
      rfl
    · have hlt : i < env.length := by
        have := (List.getElem?_eq_some_iff.mp e).1
        rw [List.length_append, List.length_singleton] at this
        omega
      rw [List.getElem?_append_left hlt] at e
      obtain ⟨v', h1, h2⟩ := r.row i o' e
      exact ⟨v', by rw [List.getElem?_append_left (by rw [← j.len]; exact hlt)]; exact h1, (h2.frame (Same.refl F) fun b u z z2 => keepS b u z2).up fun b z => by rw [if_neg hi]; exact z⟩
  · intro i k a h1 h2
    try dsimp only at h1 h2
    by_cases hi : i = env.length
    · by_cases hk : k = env.length
      · rw [hi, hk]
      · rw [if_pos hi] at h1
        rw [if_neg hk] at h2
        exact absurd h1 (apart k a h2)
    · rw [if_neg hi] at h1
      by_cases hk : k = env.length
      · rw [if_pos hk] at h2
        exact absurd h2 (apart i a h1)
      · rw [if_neg hk] at h2
        exact r.dis i k a h1 h2
  · intro i a h1
    try dsimp only at h1
    by_cases hi : i = env.length
    · rw [if_pos hi] at h1
      obtain ⟨n1, n2⟩ := new a h1
      exact ⟨(j.free n1).1, n2, (j.free n1).2⟩
    · rw [if_neg hi] at h1
      obtain ⟨q1, q2, q3⟩ := r.bnd i a h1
      rw [old a (apart i a h1)]
      exact ⟨q1, q2, q3⟩
  · exact fun a u z => keepS a u (j.sub a u z)
  · exact fun a u z z2 => keepS a u (j.keep a u z z2)
/-- a new instance without fields -/
theorem J0.newI {c : Str} {C x dx : Addr} (j : J0 K mg G F env σ H) (hC : mg c = some (.ref C)) (hx : H x = none) (hd : H dx = none) (hne : dx ≠ x) : J0 K mg G F (env ++ [some (.nd (.ins c []) [])]) (σ ++ [some (.ref x)]) (upd (upd H dx (.own x)) x (.ins C dx [])) := by
  refine j.grow (N := fun b => b = x ∨ b = dx) (fun b hb => ?_) (fun b hb => ?_) ?_
  · rcases hb with rfl | rfl
    · exact ⟨hx, by rw [upd_same]; exact fun z => nomatch z⟩
    · exact ⟨hd, by rw [upd_ne hne, upd_same]; exact fun z => nomatch z⟩
  · rw [upd_ne fun z => hb (.inl z), upd_ne fun z => hb (.inr z)]
  · exact .ins_mk (vs := []) (Sf := fun _ _ => False) hC upd_same rfl (by rw [upd_ne hne, upd_same]) (.inl rfl) (.inr rfl) rfl (fun j v o e => by cases e) (fun _ _ _ h => h.elim) (fun _ _ h => h.elim)
end
def nMake (c : Str) (n : Nat) (ks : List Nat) (fn : FM) (l : AM) : NM := fun e => (l e).bind fun its e1 => (argsOf e1 its).elim .no fun os => if its.length + 1 = n ∧ ndIo its = true then (match fn (.nd (.ins c []) [] :: os) with
  | .ret .none fin => (if 0 ∈ ks then (fin[0]?).join else none).elim .no fun o => .ok o (backA ks fin 1 its e1)
  | .ret _ _ => .no
  | .exc x fin => .exc x (backA ks fin 1 its e1)
  | .no => .no) else .no
theorem fz_non {K : PySem.W.Frag} {F : Hp} {v : V} (h : Fz K F v .none) : v = .non := by
  cases h
  rfl
theorem canMake {X : Cx} {W : WX} {c : Str} {C : Addr} {n : Nat} {ks : List Nat} {fn : FM} {l : AM} (hC : X.mg c = some (.ref C)) (hks : ∀ k ∈ ks, k < n) (σ : St) (H : Hp) (Q : VK) (h : canN X W (nMake c n ks fn l) σ H Q) : tMakeS C (spD X.K X.mg n ks fn) (WE W) (canA X W l) σ H Q := by
  obtain ⟨G, F, env, j, p⟩ := h
  refine ⟨G, F, env, j, (PostN.bind p).imp fun its F1 H1 s1 ⟨e1, j1, p2⟩ vs iv x dx hx hd hne => ?_⟩
  cases ha : argsOf e1 its with
  | none => rw [ha] at p2; exact p2.elim
  | some os =>
    rw [ha] at p2
    simp only [Option.elim_some] at p2
    by_cases hc : its.length + 1 = n ∧ ndIo its = true
    case neg => rw [if_neg hc] at p2; exact p2.elim
    rw [if_pos hc] at p2
    refine callLast hks (j1.j0.newI hC hx hd hne) j1.io iv ha hc.1 hc.2 ?_
    cases hf : fn (.nd (.ins c []) [] :: os) with
    | no => rw [hf] at p2; exact p2.elim
    | exc y fin =>
      rw [hf] at p2
      exact fun F' H' C' hC' s jr => p2 F' H' C' hC' s ⟨jr.cut, j1.io⟩
    | ret d fin =>
      rw [hf] at p2
      intro F' H' u s jr fz
      cases d with
      | none =>
        have p2 : PostN X W G F1 σ Q ((if 0 ∈ ks then (fin[0]?).join else none).elim .no fun o => .ok o (backA ks fin 1 its e1)) := p2
        generalize hw : (if 0 ∈ ks then (fin[0]?).join else none) = w at p2 jr
        cases w with
        | none => exact p2.elim
        | some o => exact ⟨fz_non fz, p2 F' H' _ s jr⟩
      | _ => exact p2.elim
section
variable {X : Cx} {W : WX} {pos : Pos}
theorem n_make {k n : Nat} {g C : Addr} {fd : FuncData} {ps : List Str} {ks : List Nat} {fn : FM} {x : Str} {p : Pos} {e : Expr} {es : List Expr} {l : AM} (F : FnOk X.prog X.w X.K X.mg X.base (L2.CX X.prog X.w) k g fd ps (spD X.K X.mg n ks fn)) (hr : Room (k + 1) X.A) (tk : Takes X W)
    (hC : X.mg x = some (.ref C)) (M : Mk X.K C g) (hb : Binds X.K fd ps []) (ha : DA X W (e :: es) l) (hks : ∀ k ∈ ks, k < n := by decide) (hg : Gl X x := by rfl) (hdb : (x == ("__debug__" : Str)) = false := by decide)
    (h1 : starEach (e :: es) X.env = (false, eval e X.env) :: starEach es X.env := by rfl) (h2 : (backTo pos (starEach es X.env)).any (·.1) = false := by rfl) :
    DN X W (.Call (.Name x p) (e :: es) [] pos) (nMake x n ks fn l) := weakE (q_make M F hr hC hb (fun σ => passAt tk σ) ha hg hdb h1 h2) (canMake hC hks)
theorem n_make0 {k n : Nat} {g C : Addr} {fd : FuncData} {ps : List Str} {ks : List Nat} {fn : FM} {x : Str} {p : Pos} (F : FnOk X.prog X.w X.K X.mg X.base (L2.CX X.prog X.w) k g fd ps (spD X.K X.mg n ks fn)) (hr : Room (k + 1) X.A) (tk : Takes X W)
    (hC : X.mg x = some (.ref C)) (M : Mk X.K C g) (hb : Binds X.K fd ps []) (hks : ∀ k ∈ ks, k < n := by decide) (hg : Gl X x := by rfl) (hdb : (x == ("__debug__" : Str)) = false := by decide) :
    DN X W (.Call (.Name x p) [] [] pos) (nMake x n ks fn fun e => .ok [] e) := weakE (q_make0 M F hr hC hb (fun σ => passAt tk σ) hg hdb) fun σ H Q h => canNil (canMake hC hks σ H Q h)
end
/-! ### a new instance's method -/
def insO (c m : Str) : O → Bool
  | .nd (.ins c' fs) _ => decide (c' = c) && (fIx m fs).isNone
  | _ => false
def eMM (c m : Str) (n : Nat) (ks : List Nat) (fn : FM) (g : NM) (l : AM) : EM := fun e => (g e).bind fun o e1 => if insO c m o = true then (l e1).nox.bind fun its e2 => (argsOf e2 its).elim .no fun os => if its.length + 1 = n ∧ ndIo its = true then (match fn (o :: os) with
  | .ret d fin => .ok d (backA ks fin 1 its e2)
  | .exc x fin => .exc x (backA ks fin 1 its e2)
  | .no => .no) else .no else .no
theorem insO_some {c m : Str} {o : O} (h : insO c m o = true) : ∃ fs xs, o = .nd (.ins c fs) xs ∧ fIx m fs = none := by
  unfold insO at h
  split at h
  · rw [Bool.and_eq_true] at h
    have := of_decide_eq_true h.1
    subst this
    exact ⟨_, _, rfl, Option.isNone_iff_eq_none.mp h.2⟩
  · cases h
theorem canMM {X : Cx} {W : WX} {c m : Str} {C : Addr} {n : Nat} {ks : List Nat} {fn : FM} {g : NM} {l : AM} (hC : X.mg c = some (.ref C)) (hks : ∀ k ∈ ks, k < n) (σ : St) (H : Hp) (Q : VK) (h : canE X W (eMM c m n ks fn g l) σ H Q) : tMethS C m (spD X.K X.mg n ks fn) (WE W) (canN X W g) (canA X WF l) σ H Q := by
  obtain ⟨G, F, env, j, p⟩ := h
  refine ⟨G, F, env, j, ?_⟩
  have p : PostR X W G F σ (fun d F' H' => ∀ v, Fz X.K F' v d → Q v H') ((g env).bind fun o e1 => if insO c m o = true then (l e1).nox.bind fun its e2 => (argsOf e2 its).elim .no fun os => if its.length + 1 = n ∧ ndIo its = true then (match fn (o :: os) with
    | .ret d fin => .ok d (backA ks fin 1 its e2)
    | .exc x fin => .exc x (backA ks fin 1 its e2)
    | .no => .no) else .no else .no) := p
  cases hg : g env with
  | no => rw [hg] at p; exact p.elim
  | exc y e1 => rw [hg] at p; exact p
  | ok o e1 =>
    rw [hg] at p
    intro F1 H1 v s1 j1
    have p : PostR X W G F σ (fun d F' H' => ∀ v, Fz X.K F' v d → Q v H') (if insO c m o = true then (l e1).nox.bind fun its e2 => (argsOf e2 its).elim .no fun os => if its.length + 1 = n ∧ ndIo its = true then (match fn (o :: os) with
      | .ret d fin => .ok d (backA ks fin 1 its e2)
      | .exc x fin => .exc x (backA ks fin 1 its e2)
      | .no => .no) else .no else .no) := p
    by_cases hi : insO c m o = true
    case neg => rw [if_neg hi] at p; exact p.elim
    rw [if_pos hi] at p
    obtain ⟨fs, xs, rfl, hf⟩ := insO_some hi
    have hel : e1.length = σ.length := by
      have := j1.len
      simp only [List.length_append, List.length_singleton] at this
      omega
    obtain ⟨Sf, r⟩ := j1.ex
    obtain ⟨v', q1, q2⟩ := r.row e1.length _ (by rw [List.getElem?_append_right (Nat.le_refl _), Nat.sub_self]; rfl)
    rw [hel, List.getElem?_append_right (Nat.le_refl _), Nat.sub_self] at q1
    have ev : v = v' := by simpa using q1
    subst ev
    obtain ⟨a, C', dx, vs0, _, rfl, h0, h1, h2, _⟩ := q2.ins
    rw [hC] at h0
    cases h0
    refine ⟨a, dx, _, rfl, h1, by rw [lookup_ix, hf]; rfl, ?_⟩
    obtain ⟨G', hio, jp, back⟩ := j1.protect2
    have io0 : ∀ {σ : St}, ∀ p ∈ G'.io, σ[p.1]? = some (some p.2) := fun p hp => by rw [hio] at hp; cases hp
    refine ⟨G', F1, e1, ⟨jp, io0⟩, ?_⟩
    cases hl : l e1 with
    | no => rw [hl] at p; exact p.elim
    | exc y e2 => rw [hl] at p; exact p.elim
    | ok its e2 =>
      rw [hl] at p
      have p : PostR X W G F σ (fun d F' H' => ∀ v, Fz X.K F' v d → Q v H') ((argsOf e2 its).elim .no fun os => if its.length + 1 = n ∧ ndIo its = true then (match fn (.nd (.ins c fs) xs :: os) with
        | .ret d fin => .ok d (backA ks fin 1 its e2)
        | .exc x fin => .exc x (backA ks fin 1 its e2)
        | .no => .no) else .no) := p
      intro F2 H2 s2 j2 vs iv
      cases ha : argsOf e2 its with
      | none => rw [ha] at p; exact p.elim
      | some os =>
        rw [ha] at p
        simp only [Option.elim_some] at p
        by_cases hc : its.length + 1 = n ∧ ndIo its = true
        case neg => rw [if_neg hc] at p; exact p.elim
        rw [if_pos hc] at p
        have s3 := s1.trans s2
        refine callLast hks (back F2 e2 σ H2 s2 j2.j0) j.io iv ha hc.1 hc.2 ?_
        cases hfn : fn (.nd (.ins c fs) xs :: os) with
        | no => rw [hfn] at p; exact p.elim
        | exc y fin =>
          rw [hfn] at p
          exact fun F' H' C' hC' s jr => p F' H' C' hC' (s3.trans s) ⟨jr.cut, j.io⟩
        | ret d fin =>
          rw [hfn] at p
          exact fun F' H' u s jr fz => p F' H' (s3.trans s) ⟨jr.cut, j.io⟩ u fz
section
variable {X : Cx} {W : WX} {pos : Pos}
theorem d_mm {k n : Nat} {f C : Addr} {fd : FuncData} {ps : List Str} {ks : List Nat} {fn : FM} {c m : Str} {apos : Pos} {o e : Expr} {es : List Expr} {g : NM} {l : AM} {pl : Sem Bool} (ho : DN X W o g) (F : FnOk X.prog X.w X.K X.mg X.base (L2.CX X.prog X.w) k f fd ps (spD X.K X.mg n ks fn)) (hr : Room k X.A) (tk : Takes X W)
    (hC : X.mg c = some (.ref C)) (hc : Cls X.K C) (mt : Meth X.K C m f) (hb : Binds X.K fd ps []) (ha : DA X WF (e :: es) l) (hks : ∀ k ∈ ks, k < n := by decide)
    (h1 : starEach (e :: es) X.env = (false, eval e X.env) :: starEach es X.env := by rfl) (h2 : (backTo pos (starEach es X.env)).any (·.1) = false := by rfl)
    (h3 : eval (.Call (.Attribute o m apos) (e :: es) [] pos) X.env = (do
      let w ← eval o X.env
      standAt apos.atName
      let (g, fst) ← holding [w] (getMethod w m pl)
      callWith pos g fst (backTo pos (starEach (e :: es) X.env)) (backToKw pos (keywordEach [] X.env))) := by rfl) :
    DE X W (.Call (.Attribute o m apos) (e :: es) [] pos) (eMM c m n ks fn g l) := weakE (q_meth ho hc mt F hr hb (fun σ => passAt tk σ) ha h1 h2 h3) (canMM hC hks)
theorem d_mm0 {k n : Nat} {f C : Addr} {fd : FuncData} {ps : List Str} {ks : List Nat} {fn : FM} {c m : Str} {apos : Pos} {o : Expr} {g : NM} {pl : Sem Bool} (ho : DN X W o g) (F : FnOk X.prog X.w X.K X.mg X.base (L2.CX X.prog X.w) k f fd ps (spD X.K X.mg n ks fn)) (hr : Room k X.A) (tk : Takes X W)
    (hC : X.mg c = some (.ref C)) (hc : Cls X.K C) (mt : Meth X.K C m f) (hb : Binds X.K fd ps []) (hks : ∀ k ∈ ks, k < n := by decide)
    (h3 : eval (.Call (.Attribute o m apos) [] [] pos) X.env = (do
      let w ← eval o X.env
      standAt apos.atName
      let (g, fst) ← holding [w] (getMethod w m pl)
      callWith pos g fst (backTo pos (starEach [] X.env)) (backToKw pos (keywordEach [] X.env))) := by rfl) :
    DE X W (.Call (.Attribute o m apos) [] [] pos) (eMM c m n ks fn g fun e => .ok [] e) := weakE (q_meth0 ho hc mt F hr hb (fun σ => passAt tk σ) h3) fun σ H Q h => by
  obtain ⟨G, F0, env, j, p⟩ := canMM (m := m) hC hks σ H Q h
  refine ⟨G, F0, env, j, ?_⟩
  cases hg : g env with
  | no => rw [hg] at p; exact p
  | exc y e1 => rw [hg] at p; exact p
  | ok o e1 =>
    rw [hg] at p
    intro F1 H1 v s1 j1
    obtain ⟨a, dx, fs, e1, e2, e3, q⟩ := p F1 H1 v s1 j1
    exact ⟨a, dx, fs, e1, e2, e3, canNil q⟩
end
end Ly

set_option Elab.async false
set_option linter.all false
set_option maxRecDepth 100000
set_option maxHeartbeats 4000000
set_option autoImplicit false
namespace Ly
open PySem PySem.Spec L2
/-! ## min of alike data -/
theorem dpAll_reads {X : Cx} {pins : List (Addr × Obj)} {σ : St} {H : Hp} {s : Shared} (I : Inv X pins σ H s) : ∀ {xs : List V} {ds : List PyData} {us : List Value}, DpAll X.K H xs ds → Vals xs us → ∃ as, ReadsAll s.heap us ds as
  | _, _, _, .nil, .nil => ⟨_, .nil⟩
  | x :: xs, d :: ds, u :: us, .cons h t, .cons r rt => by
    obtain ⟨as, a⟩ := Dp.reads I d x u h r
    obtain ⟨bs, b⟩ := dpAll_reads I t rt
    exact ⟨_, .cons a b⟩
theorem readsAll_ix {h : Heap} : ∀ {us : List Value} {ds : List PyData} {as : List Addr}, ReadsAll h us ds as → ∀ (i : Nat) (u : Value), us[i]? = some u → ∃ d bs, ds[i]? = some d ∧ Reads h u d bs
  | _, _, _, .nil, i, u, e => by cases e
  | _, _, _, .cons (d := d) r rs, 0, u, e => by
    cases e
    exact ⟨d, _, rfl, r⟩
  | _, _, _, .cons r rs, i + 1, u, e => readsAll_ix rs i u e
theorem vals_ix : ∀ {xs : List V} {us : List Value} {i : Nat} {u : Value}, Vals xs us → us[i]? = some u → ∃ x, xs[i]? = some x ∧ RelV x u
  | _, _, i, u, .nil, e => by cases e
  | _, _, 0, u, .cons r _, e => by
    cases e
    exact ⟨_, rfl, r⟩
  | _, _, i + 1, u, .cons _ t, e => vals_ix (i := i) t e
theorem canLayAll_mem : ∀ {ds : List PyData} {d : PyData}, PyData.canLayAll0 ds = true → d ∈ ds → d.canLay0 = true
  | [], d, _, h => by cases h
  | e :: r, d, hl, h => by
    have hl : (e.canLay0 && PyData.canLayAll0 r) = true := hl
    rw [Bool.and_eq_true] at hl
    rcases List.mem_cons.mp h with rfl | h
    · exact hl.1
    · exact canLayAll_mem hl.2 h
theorem zip_ix : ∀ {xs : List V} {ds : List PyData} {i : Nat} {x : V} {d : PyData}, xs[i]? = some x → ds[i]? = some d → (x, d) ∈ xs.zip ds
  | [], _, _, _, _, e, _ => by cases e
  | _ :: _, [], _, _, _, _, e => by cases e
  | _ :: _, _ :: _, 0, _, _, e1, e2 => by
    cases e1
    cases e2
    exact List.mem_cons_self
  | _ :: xs, _ :: ds, i + 1, _, _, e1, e2 => List.mem_cons_of_mem _ (zip_ix (i := i) e1 e2)
def rMinD (K : PySem.W.Frag) : List V → Hp → VK → Prop := fun vs H Q => ∃ (a : Addr) (xs : List V) (d : PyData) (ds : List PyData), vs = [V.ref a] ∧ SqL K H a xs ∧ DpAll K H xs (d :: ds) ∧ PyData.canLayAll0 (d :: ds) = true ∧ PySem.W.AlikeAll (d :: ds) ∧ PyData.depthAll (d :: ds) ≤ 60 ∧
  ∀ y : V, (y, PySem.W.minD d ds) ∈ xs.zip (d :: ds) → Q y H
theorem call_minD {X : Cx} (hc : X.calm = true) (hu : X.A.units + 65 < cLine) : CallR X (.builtin "min") (rMinD X.K) := by
  intro pins s σ H vs us Q I r h
  obtain ⟨a, xs, d, ds, rfl, hs, hd, hl0, hal, hdep, q⟩ := h
  obtain ⟨its, rv, hl, hz⟩ := I.list hs
  rw [Vals.ref1 r]
  obtain ⟨as, ra⟩ := dpAll_reads I hd rv
  refine PySem.W.min_list_data (vs := its.toArray) (x := d) (xs := ds) (as := as) (I.ok.hd hc) hl.isList ra hal (by omega) ?_
  intro i v h' tk bs hi rr hk
  have hi : its[i]? = some v := by rw [← hi]; exact (List.getElem?_toArray ..).symm
  obtain ⟨y, y1, y2⟩ := vals_ix rv hi
  obtain ⟨e, cs, e1, e2⟩ := readsAll_ix ra i v hi
  have ed : e = PySem.W.minD d ds := PySem.SeqAt.Reads.unique _ _ _ _ _ (canLayAll_mem hl0 (List.mem_of_getElem? e1)) (PySem.W.reads_keeps hk e2) rr
  exact ⟨y, H, I.kept (t' := tk) hk, y2, q y (by rw [← ed]; exact zip_ix y1 e1)⟩
def noNone (ds : List PyData) : Bool := ds.all fun d => match d with
  | .none => false
  | _ => true
def minXd : List PyData → Option PyData
  | [] => none
  | d :: r => if SeqAt.shaped (.list (d :: r)) && alikeL (d :: r) && noNone (d :: r) && decide (PyData.depthAll (d :: r) ≤ 60) then some (PySem.W.minD d r) else none
def gMinX : List PyData → Option PyData
  | [.list ds] => match gMinL [.list ds] with
    | some c => some c
    | none => minXd ds
  | _ => none
theorem alikeAll_of {ds : List PyData} (h1 : alikeL ds = true) (h2 : noNone ds = true) : PySem.W.AlikeAll ds := by
  refine ⟨fun x hx y hy => List.all_eq_true.mp (List.all_eq_true.mp h1 x hx) y hy, fun x hx => ?_⟩
  have := List.all_eq_true.mp h2 x hx
  rintro rfl
  cases this
theorem n_minX {K : PySem.W.Frag} : SndL K (fun vs H Q => rMin K vs H Q ∨ rMinD K vs H Q) gMinX := by
  intro F H xs as c Q s f hg q
  cases f with
  | nil => cases hg
  | @cons v vs d ds fd ft =>
   cases ft with
   | cons _ _ => cases d <;> cases hg
   | nil =>
    cases fd with
    | @lst a vs ds h1 t1 =>
      have hg : (match gMinL [.list ds] with
        | some c => some c
        | none => minXd ds) = some c := hg
      cases e : gMinL [.list ds] with
      | some c' =>
        rw [e] at hg
        cases hg
        exact .inl (n_minL F H [.ref a] [.list ds] c Q s (.cons (.lst h1 t1) .nil) e q)
      | none =>
        rw [e] at hg
        cases ds with
        | nil => cases hg
        | cons d r =>
          have hg : (if SeqAt.shaped (.list (d :: r)) && alikeL (d :: r) && noNone (d :: r) && decide (PyData.depthAll (d :: r) ≤ 60) then some (PySem.W.minD d r) else none) = some c := hg
          by_cases h : (SeqAt.shaped (.list (d :: r)) && alikeL (d :: r) && noNone (d :: r) && decide (PyData.depthAll (d :: r) ≤ 60)) = true
          · rw [if_pos h] at hg
            cases hg
            simp only [Bool.and_eq_true, decide_eq_true_eq] at h
            obtain ⟨⟨⟨a1, a2⟩, a3⟩, a4⟩ := h
            have lay := shaped_lay a1
            rw [PyData.canLay0] at lay
            refine .inr ⟨a, vs, d, r, rfl, s.seq h1, FzL.dp (t1.mono s) lay, lay, alikeAll_of a2 a3, a4, fun y hy => ?_⟩
            exact q _ F H .refl (fzL_zip t1 hy)
          · rw [if_neg h] at hg; cases hg
    | _ => cases hg
theorem call_minX {X : Cx} (hc : X.calm = true) (hu : X.A.units + 65 < cLine) : CallR X (.builtin "min") (fun vs H Q => rMin X.K vs H Q ∨ rMinD X.K vs H Q) := CallR.or (cr_min hc) (call_minD hc hu)
theorem gMinX_D {d : PyData} {ds : List PyData} (h0 : gMinL [.list (d :: ds)] = none) (h1 : SeqAt.shaped (.list (d :: ds)) = true) (h2 : alikeL (d :: ds) = true) (h3 : noNone (d :: ds) = true) (h4 : PyData.depthAll (d :: ds) ≤ 60) : gMinX [.list (d :: ds)] = some (PySem.W.minD d ds) := by
  show (match gMinL [.list (d :: ds)] with
    | some c => some c
    | none => if SeqAt.shaped (.list (d :: ds)) && alikeL (d :: ds) && noNone (d :: ds) && decide (PyData.depthAll (d :: ds) ≤ 60) then some (PySem.W.minD d ds) else none) = _
  rw [h0, h1, h2, h3, decide_eq_true h4]
  rfl
end Ly

set_option Elab.async false
set_option linter.all false
set_option maxRecDepth 100000
set_option maxHeartbeats 4000000
set_option autoImplicit false
namespace Ly
open PySem PySem.Spec L2
/-! readings of instances -/
theorem seq_step {g h : SM} {e e1 : Ev} (q : g e = .nx e1) : sSeq g h e = h e1 := by
  rw [sSeq_ap, q, seq_nx]
theorem body_st {N : Nat} {g : SM} {os : List O} (st : Ev) (h : os.map some ++ List.replicate (N - os.length) none = st := by rfl) : bodyFn N g os = (g st).fr := by
  rw [body_ap, h]
section
variable {c f m : Str} {e : Ev} {i n : Nat} {ks : List Nat} {fn : FM} {l : AM} {g : NM} {p : PM} {fv : EM}
def insX (c : Str) (o : Option (Option O)) : Option (List Str × List O) := match o with
  | some (some (.nd (.ins c' fs) xs)) => if c' = c then some (fs, xs) else none
  | _ => none
theorem insAt_a : insAt c e i = insX c e[i]? := rfl
theorem insX_i (fs : List Str) (xs : List O) : insX c (some (some (.nd (.ins c fs) xs))) = some (fs, xs) := if_pos rfl
theorem insAt_i {fs : List Str} {xs : List O} (h : e[i]? = some (some (.nd (.ins c fs) xs))) : insAt c e i = some (fs, xs) := by
  rw [insAt_a, h, insX_i]
theorem eFld_i {fs : List Str} {xs : List O} {d : PyData} (h : e[i]? = some (some (.nd (.ins c fs) xs))) (hf : fldO f fs xs = some (.fr d)) : eFld c f i e = .ok d e := by
  unfold eFld
  rw [insAt_i h]
  show (match fldO f fs xs with
  | some (.fr d) => Res.ok d e
  | _ => .no) = _
  rw [hf]
theorem pFld_i {fs : List Str} {xs : List O} {d : PyData} (h : e[i]? = some (some (.nd (.ins c fs) xs))) (hf : fldO f fs xs = some (.fr d)) : pFld c f i e = some d := by
  unfold pFld
  rw [insAt_i h]
  show (match fldO f fs xs with
  | some (.fr d) => some d
  | _ => none) = _
  rw [hf]
theorem fLst_i {fs : List Str} {xs ys : List O} (h : e[i]? = some (some (.nd (.ins c fs) xs))) (hf : fldO f fs xs = some (.nd .lst ys)) : fLst c f i e = some ys := by
  unfold fLst
  rw [insAt_i h]
  show lstC (fldO f fs xs) = _
  rw [hf]
  rfl
theorem pFIx_i {fs : List Str} {xs ys : List O} {z : Int} {k : Nat} {d : PyData} (h : e[i]? = some (some (.nd (.ins c fs) xs))) (hf : fldO f fs xs = some (.nd .lst ys)) (hp : p e = some (.int z)) (hk : ixN ys.length z = some k) (hd : ys[k]? = some (.fr d)) : pFIx c f i p e = some d := by
  unfold pFIx
  rw [fLst_i h hf, hp]
  show (ixN ys.length z).bind _ = _
  rw [hk]
  show datAt ys[k]? = _
  rw [hd]
  rfl
theorem eFIx_i {fs : List Str} {xs ys : List O} {z : Int} {k : Nat} {d : PyData} (h : e[i]? = some (some (.nd (.ins c fs) xs))) (hf : fldO f fs xs = some (.nd .lst ys)) (hp : p e = some (.int z)) (hk : ixN ys.length z = some k) (hd : ys[k]? = some (.fr d)) : eFIx c f i p e = .ok d e := by
  unfold eFIx
  rw [pFIx_i h hf hp hk hd]
  rfl
theorem sFIx_i {fs : List Str} {xs ys : List O} {z : Int} {k : Nat} {d : PyData} {e1 : Ev} (hv : fv e = .ok d e1) (h : e1[i]? = some (some (.nd (.ins c fs) xs))) (hf : fldO f fs xs = some (.nd .lst ys)) (hp : p e1 = some (.int z)) (hk : ixN ys.length z = some k) : sFIx c f i p fv e = .nx (e1.set i (some (putO c f (.nd .lst (ys.set k (.fr d))) fs xs))) := by
  unfold sFIx
  rw [hv]
  show (fLst c f i e1).elim Out.no _ = _
  rw [fLst_i h hf]
  show ((p e1).bind intD).elim Out.no _ = _
  rw [hp]
  show (ixN ys.length z).elim Out.no _ = _
  rw [hk]
  show Out.nx (putF2 c f i (ys.set k (.fr d)) e1) = _
  unfold putF2
  rw [insAt_i h]
theorem sFldN_i {fs : List Str} {xs : List O} {o : O} {e1 : Ev} (hv : g e = .ok o e1) (h : e1[i]? = some (some (.nd (.ins c fs) xs))) (hl : fs.length < 1000) : sFldN c f i g e = .nx (e1.set i (some (putO c f o fs xs))) := by
  unfold sFldN
  rw [hv]
  show (insAt c e1 i).elim Out.no _ = _
  rw [insAt_i h]
  exact if_pos hl
theorem eMeth_i {fs : List Str} {xs : List O} (h : e[i]? = some (some (.nd (.ins c fs) xs))) (hm : fIx m fs = none) : eMeth c m i n ks fn l e = eCall n ks fn (aIo i l) e := by
  refine if_pos ?_
  unfold insC
  rw [insAt_i h]
  show (fIx m fs).isNone = true
  rw [hm]
  rfl
/-- a call of a method whose arguments are data -/
theorem meth_ret {fs : List Str} {xs : List O} {ds : List PyData} {d : PyData} {fin : Ev} {o' : Option O} (h : e[i]? = some (some (.nd (.ins c fs) xs))) (hm : fIx m fs = none) (hl : l e = .ok (ds.map .inl) e) (hn : ds.length + 1 = n) (hf : fn (.nd (.ins c fs) xs :: ds.map .fr) = .ret d fin) (hk : ks = [0]) (ho : fin[0]? = some o') :
    eMeth c m i n ks fn l e = .ok d (e.set i o') := by
  subst hk
  have hA : ∀ ds : List PyData, argsOf e (ds.map Sum.inl) = some (ds.map .fr) := fun ds => by
    induction ds with
    | nil => rfl
    | cons a r ih =>
      show (argsOf e (r.map Sum.inl)).map _ = _
      rw [ih]
      rfl
  have hB : ∀ (ds : List PyData) (j : Nat) (e : Ev), backA [0] fin j (ds.map Sum.inl) e = e := fun ds => by
    induction ds with
    | nil => intro j e; rfl
    | cons a r ih => intro j e; exact ih (j + 1) e
  have hC : ∀ (ds : List PyData), ndIo (ds.map Sum.inl) = true := fun ds => by
    induction ds with
    | nil => rfl
    | cons a r ih => exact ih
  have hD : ∀ (ds : List PyData), (ds.map (Sum.inl (β := Nat))).all (fun t => match t with
    | .inr k => !decide (k = i)
    | .inl _ => true) = true := fun ds => by
    induction ds with
    | nil => rfl
    | cons a r ih => exact ih
  rw [eMeth_i h hm, call_ap, aIo_ap h, hl]
  simp only [bind_ok]
  rw [args_inr _ h, hA]
  simp only [Option.map_some, Option.elim_some]
  rw [if_pos ⟨by rw [List.length_cons, List.length_map]; exact hn, by rw [nd_inr, hC, Bool.and_true]; exact hD ds⟩, hf, back_ret, backA_inr, hB, ho]
  rfl
theorem argsOf_inl (e : Ev) : ∀ ds : List PyData, argsOf e (ds.map Sum.inl) = some (ds.map .fr)
  | [] => rfl
  | d :: ds => by
    show (argsOf e (ds.map Sum.inl)).map _ = _
    rw [argsOf_inl e ds]
    rfl
theorem backA_ds (ks : List Nat) (fin : Ev) : ∀ (ds : List PyData) (j : Nat) (e : Ev), backA ks fin j (ds.map Sum.inl) e = e
  | [], _, _ => rfl
  | d :: ds, j, e => backA_ds ks fin ds (j + 1) e
theorem ndIo_ds : ∀ ds : List PyData, ndIo (ds.map Sum.inl) = true
  | [] => rfl
  | d :: ds => ndIo_ds ds
theorem make_ret {ds : List PyData} {fin : Ev} {o : O} (hl : l e = .ok (ds.map .inl) e) (hn : ds.length + 1 = n) (hf : fn (.nd (.ins c []) [] :: ds.map .fr) = .ret .none fin) (hk : ks = [0]) (ho : fin[0]? = some (some o)) : nMake c n ks fn l e = .ok o e := by
  subst hk
  unfold nMake
  rw [hl]
  show (argsOf e (ds.map Sum.inl)).elim Res.no _ = _
  rw [argsOf_inl]
  simp only [Option.elim_some]
  rw [if_pos ⟨by rw [List.length_map]; exact hn, ndIo_ds ds⟩, hf]
  show ((fin[0]?).join).elim Res.no _ = _
  rw [ho]
  show Res.ok o (backA [0] fin 1 (ds.map Sum.inl) e) = _
  rw [backA_ds]
theorem make_exc {ds : List PyData} {fin : Ev} {x : Str} (hl : l e = .ok (ds.map .inl) e) (hn : ds.length + 1 = n) (hf : fn (.nd (.ins c []) [] :: ds.map .fr) = .exc x fin) : nMake c n ks fn l e = .exc x e := by
  unfold nMake
  rw [hl]
  show (argsOf e (ds.map Sum.inl)).elim Res.no _ = _
  rw [argsOf_inl]
  simp only [Option.elim_some]
  rw [if_pos ⟨by rw [List.length_map]; exact hn, ndIo_ds ds⟩, hf]
  show Res.exc x (backA ks fin 1 (ds.map Sum.inl) e) = _
  rw [backA_ds]
theorem mm_ret {ds : List PyData} {fs : List Str} {xs : List O} {d : PyData} {fin : Ev} {e1 : Ev} (hg : g e = .ok (.nd (.ins c fs) xs) e1) (hm : fIx m fs = none) (hl : l e1 = .ok (ds.map .inl) e1) (hn : ds.length + 1 = n) (hf : fn (.nd (.ins c fs) xs :: ds.map .fr) = .ret d fin) : eMM c m n ks fn g l e = .ok d e1 := by
  unfold eMM
  rw [hg]
  have hi : insO c m (.nd (.ins c fs) xs) = true := by
    show (decide (c = c) && (fIx m fs).isNone) = true
    rw [hm, decide_eq_true rfl]
    rfl
  show (if insO c m (.nd (.ins c fs) xs) = true then _ else _) = _
  rw [if_pos hi, hl]
  show (argsOf e1 (ds.map Sum.inl)).elim Res.no _ = _
  rw [argsOf_inl]
  simp only [Option.elim_some]
  rw [if_pos ⟨by rw [List.length_map]; exact hn, ndIo_ds ds⟩, hf]
  show Res.ok d (backA ks fin 1 (ds.map Sum.inl) e1) = _
  rw [backA_ds]
end
end Ly

set_option Elab.async false
set_option linter.all false
set_option maxRecDepth 100000
set_option maxHeartbeats 4000000
set_option autoImplicit false
namespace Ly
open PySem PySem.Spec L2
/-! ## None among a dict's keys; list.count -/
def dinN (o : O) : PyData → Option PyData
  | .none => match o with
    | .nd (.dK _) _ => some (.bool false)
    | _ => none
  | k => (dgetO o k).map fun r => .bool r.isSome
def eDinN (fk : EM) (i : Nat) : EM := fun e => (fk e).bind fun k e1 => e1[i]?.join.elim .no fun o => lift (dinN o k) e1
def isLD : PyData → Bool
  | .list _ => true
  | _ => false
def gCntI : PyData → List PyData → Option PyData
  | .list ds, [.int k] => (intsD ds).map fun ns => .int (ns.count k : Nat)
  | _, _ => none
section
variable {X : Cx} {W : WX} {ix : Expr} {fi : EM} {np pos : Pos}
theorem canDinN {i : Nat} (σ : St) (H : Hp) (Q : VK) (h : canE X W (eDinN fi i) σ H Q) : tDInN (canE X W fi) (tVar i) σ H Q := by
  obtain ⟨G, F, env, j, p⟩ := h
  refine ⟨G, F, env, j, p.bind.imp fun k F1 H1 s1 ⟨e1, j1, p2⟩ y fy => ?_⟩
  cases he1 : e1[i]?.join with
  | none => rw [he1] at p2; exact p2.elim
  | some o =>
    rw [he1] at p2
    have p2 : PostR X W G F1 σ (fun d F' H' => ∀ v, Fz X.K F' v d → Q v H') (lift (dinN o k) e1) := p2
    obtain ⟨S2, v2, q1, q2, _⟩ := j1.row (jn he1)
    have other : dinN o k = (dgetO o k).map (fun r => .bool r.isSome) → ∃ v, σ[i]? = some (some v) ∧ ((∃ a o, v = .ref a ∧ DGet H1 a y o ∧ Q (.bl o.isSome) H1) ∨ ∃ a kvs, v = .ref a ∧ y = .non ∧ Rd H1 a (.dK kvs) ∧ Q (.bl false) H1) := fun e => by
      rw [e] at p2
      cases hg : dgetO o k with
      | none => rw [hg] at p2; exact p2.elim
      | some r =>
        rw [hg] at p2
        obtain ⟨a, ov, rfl, _, gg, hh⟩ := q2.look j1.sub fy hg
        refine ⟨_, q1, .inl ⟨a, ov, rfl, gg, ?_⟩⟩
        have e : ov.isSome = r.isSome := by
          rcases hh with ⟨rfl, rfl⟩ | ⟨w, o', T, rfl, rfl, _⟩ <;> rfl
        rw [e]
        exact p2 F1 H1 (Same.refl F1) j1 _ (.bl _)
    cases k with
    | none =>
      have hy := fz_non fy
      subst hy
      cases o with
      | fr d => exact p2.elim
      | nd s xs =>
        cases s with
        | dK ks =>
          obtain ⟨a, vs, Sf, rfl, h1, _⟩ := q2.dK
          exact ⟨_, q1, .inr ⟨a, _, rfl, rfl, .inl h1, p2 F1 H1 (Same.refl F1) j1 _ (.bl _)⟩⟩
        | _ => exact p2.elim
    | _ => exact other rfl
theorem d_dinN (i : Nat) {x : Str} (hu : X.A.units + 65 < cLine) (hx : DE X W ix fi) (hm : behindInMarks .In (.Name x np) = false := by rfl) (hN : X.N[i]? = some x := by rfl) (hv : Vis X.env.scope x := by first | exact Or.inl rfl | exact Or.inr (Or.inl rfl) | exact Or.inr (Or.inr rfl)) (hd : (x == ("__debug__" : Str)) = false := by decide) (hcd : (x == ("__classdict__" : Str)) = false := by decide) :
    DE X W (.Compare ix [.In] [.Name x np] pos) (eDinN fi i) := weakE (pe_cmp (pc_dinN (by omega) hx (pe_var hN hv hd hcd)) hm) canDinN
theorem t_dinN (i : Nat) {x : Str} (hu : X.A.units + 65 < cLine) (hx : DE X W ix fi) (hm : behindInMarks .In (.Name x np) = false := by rfl) (hN : X.N[i]? = some x := by rfl) (hv : Vis X.env.scope x := by first | exact Or.inl rfl | exact Or.inr (Or.inl rfl) | exact Or.inr (Or.inr rfl)) (hd : (x == ("__debug__" : Str)) = false := by decide) (hcd : (x == ("__classdict__" : Str)) = false := by decide) :
    DT X W (.Compare ix [.In] [.Name x np] pos) (tB2 (eDinN fi i)) := weakT (pt_cmp (pc_dinN (by omega) hx (pe_var hN hv hd hcd)) hm) (canTB canDinN)
end
theorem fzI {K : PySem.W.Frag} {F : Hp} : ∀ {vs : List V} {ns : List Int}, FzL K F vs (ns.map PyData.int) → vs = ns.map V.int
  | _, [], .nil => rfl
  | _, n :: ns, .cons h t => by
    cases h
    rw [fzI t]
    rfl
theorem n_cntI {K : PySem.W.Frag} : SndM K (rCntI K) gCntI := by
  intro F H x a xs as c Q s fx fxs hg q
  cases fx with
  | @lst l vs ds h1 t1 =>
    match as, fxs, hg with
    | [.int k], .cons fk .nil, hg =>
      cases fk
      have hg : (intsD ds).map (fun ns => PyData.int (ns.count k : Nat)) = some c := hg
      cases hi : intsD ds with
      | none => rw [hi] at hg; cases hg
      | some ns =>
        rw [hi] at hg
        cases hg
        have e := intsD_eq hi
        subst e
        have ev := fzI t1
        subst ev
        exact ⟨l, ns, k, rfl, rfl, s.seq h1, q _ F H .refl (.int _)⟩
    | [], _, hg => cases hg
    | _ :: _ :: _, _, hg => exact absurd hg (by intro z; simp [gCntI] at z)
    | [.none], _, hg => cases hg
    | [.bool _], _, hg => cases hg
    | [.str _], _, hg => cases hg
    | [.list _], _, hg => cases hg
    | [.tuple _], _, hg => cases hg
    | [.dict _], _, hg => cases hg
  | _ => cases hg
theorem ty_lst {K : PySem.W.Frag} : ∀ F H v a, Same F H → Fz K F v a → isLD a = true → tyV K "list" v H := by
  intro F H v a s f h
  cases f with
  | @lst l vs ds h1 t1 => exact .inl ⟨rfl, vs, s.seq h1⟩
  | _ => cases h
section
variable {X : Cx} {W : WX} {o e : Expr} {f : EM} {l : LM} {apos cpos : Pos}
theorem d_lcount (ho : DE X W o f) (ha : DL X W [e] l) (hbase : attributeBase o "count" X.env (eval o X.env) = eval o X.env := by rfl)
    (hfew : ((backTo cpos (starEach [e] X.env)).all (fun x => !x.1) && (backToKw cpos (keywordEach [] X.env)).all (fun x => x.1.isSome) && decide (([e] : List Expr).length + ([] : List Keyword).length + (if ([] : List Keyword).isEmpty then 0 else 1) < 30)) = true := by rfl)
    (hline : (apos.endLine == cpos.line) = true := by rfl) (hst : starEach [e] X.env = (false, eval e X.env) :: starEach [] X.env := by rfl) (hplain : (backTo cpos (starEach [] X.env)).any (·.1) = false := by rfl) :
    DE X W (.Call (.Attribute o "count" apos) [e] [] cpos) (eM isLD gCntI f l) :=
  weakE (pe_bm PySem.F.plainAttrs_list PySem.F.slot_list_count PySem.F.type_list_count mt_lcount ho ha hbase hfew hline hst hplain) (canBM n_cntI ty_lst)
end
end Ly

set_option Elab.async false
set_option linter.all false
set_option maxRecDepth 100000
set_option maxHeartbeats 4000000
set_option autoImplicit false
namespace Ly
open PySem PySem.Spec L2
/-! ## [.. for k in d ..], d an owned dict of data: it is locked meanwhile -/
def delF (F : Hp) (d : Addr) : Hp := fun b => if b = d then none else F b
theorem del_ne {F : Hp} {d a : Addr} (h : a ≠ d) : delF F d a = F a := if_neg h
theorem del_same {F : Hp} {d : Addr} : delF F d d = none := if_pos rfl
section
variable {K : PySem.W.Frag} {F : Hp} {d : Addr} {od : Obj} {u : List (Key × V)}
theorem del_lst (hd : F d = some (.frz od (.dK u))) {a : Addr} {xs : List V} (h : Rd F a (.lst xs)) : Rd (delF F d) a (.lst xs) := by
  have ne : a ≠ d := fun z => by
    rw [z] at h
    rcases h with h | ⟨o, h⟩ <;> rw [hd] at h <;> cases h
  rcases h with h | ⟨o, h⟩
  · exact .inl (by rw [del_ne ne]; exact h)
  · exact .inr ⟨o, by rw [del_ne ne]; exact h⟩
theorem del_at (hd : F d = some (.frz od (.dK u))) {a : Addr} {o : HO} (hn : ∀ x y, o ≠ .frz x y) (h : F a = some o) : delF F d a = some o := by
  rw [del_ne fun z => by rw [z, hd] at h; exact hn _ _ (Option.some.inj h).symm]
  exact h
theorem del_seq (hd : F d = some (.frz od (.dK u))) {a : Addr} {xs : List V} (h : SqL K F a xs) : SqL K (delF F d) a xs := h.elim (fun h => .inl (del_lst hd h)) .inr
theorem del_tup (hd : F d = some (.frz od (.dK u))) {a : Addr} {xs : List V} (h : F a = some (.tup xs)) : delF F d a = some (.tup xs) := del_at hd (fun _ _ z => nomatch z) h
theorem del_dK (hd : F d = some (.frz od (.dK u))) {a : Addr} {xs : List (Key × V)} (h : F a = some (.dK xs)) : delF F d a = some (.dK xs) := del_at hd (fun _ _ z => nomatch z) h
theorem del_dT (hd : F d = some (.frz od (.dK u))) {a : Addr} {xs : List (List Key × V)} (h : F a = some (.dT xs)) : delF F d a = some (.dT xs) := del_at hd (fun _ _ z => nomatch z) h
mutual
theorem Fz.del (hd : F d = some (.frz od (.dK u))) : ∀ {v : V} {x : PyData}, Fz K F v x → Fz K (delF F d) v x
  | _, _, .kt h t => .kt h (FzL.del hd t)
  | _, _, .non => .non
  | _, _, .bl b => .bl b
  | _, _, .int i => .int i
  | _, _, .str x => .str x
  | _, _, .lst h t => .lst (del_seq hd h) (FzL.del hd t)
  | _, _, .tup h t => .tup (del_tup hd h) (FzL.del hd t)
  | _, _, .dK h t => .dK (del_dK hd h) (FzK.del hd t)
  | _, _, .dT h t => .dT (del_dT hd h) (FzT.del hd t)
theorem FzL.del (hd : F d = some (.frz od (.dK u))) : ∀ {vs : List V} {ds : List PyData}, FzL K F vs ds → FzL K (delF F d) vs ds
  | _, _, .nil => .nil
  | _, _, .cons h t => .cons (Fz.del hd h) (FzL.del hd t)
theorem FzK.del (hd : F d = some (.frz od (.dK u))) : ∀ {vs : List (Key × V)} {ds : List (PyData × PyData)}, FzK K F vs ds → FzK K (delF F d) vs ds
  | _, _, .nil => .nil
  | _, _, .cons h t => .cons (Fz.del hd h) (FzK.del hd t)
theorem FzT.del (hd : F d = some (.frz od (.dK u))) : ∀ {vs : List (List Key × V)} {ds : List (PyData × PyData)}, FzT K F vs ds → FzT K (delF F d) vs ds
  | _, _, .nil => .nil
  | _, _, .cons h t => .cons (Fz.del hd h) (FzT.del hd t)
end
theorem Rep.del {mg : MG} {H H' : Hp} {S : Addr → Prop} (hd : F d = some (.frz od (.dK u))) {v : V} {o : O} (h : Rep K mg F H S v o) (k : ∀ b o, S b → H b = some o → H' b = some o) : Rep K mg (delF F d) H' S v o := by
  induction h with
  | fr h => exact .fr (h.del hd)
  | nd h1 h2 h3 h4 h5 h6 ih => exact .nd (h1.keep fun b o q => k b o (h2 b q)) h2 h3 (fun j v o e1 e2 => ih j v o e1 e2 fun b o q => k b o (h6 j b q).1) h5 h6
end
section
variable {K : PySem.W.Frag} {mg : MG} {G : Gd} {F H : Hp} {env : Ev} {σ : St}
theorem fr_all {S : Nat → Addr → Prop} : ∀ (vs : List V) (ds : List PyData), vs.length = ds.length → (∀ (j : Nat) (v : V) (o : O), vs[j]? = some v → (ds.map O.fr)[j]? = some o → Rep K mg F H (S j) v o) → FzL K F vs ds := by
  intro vs
  induction vs generalizing S with
  | nil =>
    intro ds hl _
    cases ds with
    | nil => exact .nil
    | cons d ds => cases hl
  | cons v vs ih =>
    intro ds hl h
    cases ds with
    | nil => cases hl
    | cons d ds =>
      have h0 := h 0 v (.fr d) rfl rfl
      cases h0 with
      | fr h0 => exact .cons h0 (ih (S := fun j => S (j + 1)) ds (Nat.succ.inj hl) fun j w o e1 e2 => h (j + 1) w o e1 e2)
theorem all_fr {S : Nat → Addr → Prop} {H : Hp} : ∀ {vs : List V} {ds : List PyData}, FzL K F vs ds → ∀ (j : Nat) (v : V) (o : O), vs[j]? = some v → (ds.map O.fr)[j]? = some o → Rep K mg F H (S j) v o := by
  intro vs ds f j v o e1 e2
  rw [List.getElem?_map] at e2
  cases hd : ds[j]? with
  | none => rw [hd] at e2; cases e2
  | some d =>
    rw [hd] at e2
    cases e2
    obtain ⟨w, h1, h2⟩ := f.get hd
    rw [e1] at h1
    cases h1
    exact .fr h2
/-- the dict of a name is locked -/
theorem J0.lock {i : Nat} {kk : List Key} {ds : List PyData} (j : J0 K mg G F env σ H) (e : env[i]? = some (some (.nd (.dK kk) (ds.map .fr)))) :
    ∃ (d : Addr) (vs : List V), σ[i]? = some (some (.ref d)) ∧ H d = some (.dK (kk.zip vs)) ∧ kk.length = vs.length ∧ FzL K F vs ds ∧ F d = none ∧ G.S d ∧ G.F0 d = none ∧
      ∀ od, J0 K mg G (upd F d (.frz od (.dK (kk.zip vs)))) (env.set i none) σ (upd H d (.frz od (.dK (kk.zip vs)))) := by
  obtain ⟨Sf, r⟩ := j.ex
  obtain ⟨v, h1, h2⟩ := r.row i _ e
  obtain ⟨d, vs, Sc, rfl, g1, g2, g3, g4, g5, _, _⟩ := h2.dK
  obtain ⟨b1, b2, b3⟩ := r.bnd i d g3
  have hF0 : G.F0 d = none := by
    cases z : G.F0 d with
    | none => rfl
    | some o =>
      have := j.f0 d o z
      rw [b1] at this
      cases this
  have hlen : vs.length = ds.length := by rw [g4, List.length_map]
  refine ⟨d, vs, h1, g1, g2, fr_all vs ds hlen g5, b1, b3, hF0, fun od => ?_⟩
  have npd : ∀ k a, k ≠ i → Sf k a → a ≠ d := fun k a hk q z => hk (r.dis k i a q (by rw [z]; exact g3))
  refine ⟨by rw [List.length_set]; exact j.len, ⟨fun k a => k ≠ i ∧ Sf k a, ?_, fun x y a h1 h2 => r.dis x y a h1.2 h2.2, ?_⟩, ?_, ?_, ?_, ?_⟩
  · intro k o' ek
    by_cases hk : k = i
    · subst hk
      rw [List.getElem?_set_self (List.getElem?_eq_some_iff.mp e).1] at ek
      cases ek
    · rw [List.getElem?_set_ne fun z => hk z.symm] at ek
      obtain ⟨v', q1, q2⟩ := r.row k o' ek
      refine ⟨v', q1, (q2.frame (same_new b1) fun b o z z2 => ?_).up fun b z => ⟨hk, z⟩⟩
      rw [upd_ne (npd k b hk z)]
      exact z2
  · intro k a ⟨hk, q⟩
    obtain ⟨c1, c2, c3⟩ := r.bnd k a q
    rw [upd_ne (npd k a hk q), upd_ne (npd k a hk q)]
    exact ⟨c1, c2, c3⟩
  · intro a o q
    by_cases z : a = d
    · subst z
      rw [upd_same] at q ⊢
      exact q
    · rw [upd_ne z] at q ⊢
      exact j.sub a o q
  · intro a o q q2
    rw [upd_ne fun z => by rw [z] at q q2; exact b3.elim (fun y => by rw [y] at q; cases q) q2]
    exact j.keep a o q q2
  · exact fun a o q => same_new b1 a o (j.f0 a o q)
  · intro a q
    by_cases z : a = d
    · subst z
      exact .inr b3
    · rw [upd_ne z] at q
      exact j.fs a q
/-- .. and unlocked -/
theorem J0.unlock {i : Nat} {kk : List Key} {ds : List PyData} {vs : List V} {d : Addr} {od : Obj} (j : J0 K mg G F env σ H) (hd : F d = some (.frz od (.dK (kk.zip vs)))) (hi : i < env.length) (hσ : σ[i]? = some (some (.ref d))) (hl : kk.length = vs.length) (hv : FzL K F vs ds) (hS : G.S d) (hF0 : G.F0 d = none) :
    J0 K mg G (delF F d) (env.set i (some (.nd (.dK kk) (ds.map .fr)))) σ (upd H d (.dK (kk.zip vs))) := by
  obtain ⟨Sf, r⟩ := j.ex
  have npd : ∀ k a, Sf k a → a ≠ d := fun k a q z => by
    have := (r.bnd k a q).1
    rw [z, hd] at this
    cases this
  refine ⟨by rw [List.length_set]; exact j.len, ⟨fun k a => (k = i ∧ a = d) ∨ (k ≠ i ∧ Sf k a), ?_, ?_, ?_⟩, ?_, ?_, ?_, ?_⟩
  · intro k o' ek
    by_cases hk : k = i
    · subst hk
      rw [List.getElem?_set_self hi] at ek
      cases ek
      refine ⟨_, hσ, .nd (N := fun b => b = d) (Sf := fun _ _ => False) (vs := vs) ⟨upd_same, hl, fun b => Iff.rfl⟩ (fun b z => .inl ⟨rfl, z⟩) (by rw [List.length_map]; exact hv.length) (all_fr (hv.del hd)) (fun _ _ _ z => z.elim) (fun _ _ z => z.elim)⟩
    · rw [List.getElem?_set_ne fun z => hk z.symm] at ek
      obtain ⟨v', q1, q2⟩ := r.row k o' ek
      refine ⟨v', q1, (q2.del hd fun b o z z2 => ?_).up fun b z => .inr ⟨hk, z⟩⟩
      rw [upd_ne (npd k b z)]
      exact z2
  · rintro x y a (⟨h1, h2⟩ | ⟨h1, h2⟩) (⟨g1, g2⟩ | ⟨g1, g2⟩)
    · rw [h1, g1]
    · exact absurd h2 (npd y a g2)
    · exact absurd g2 (npd x a h2)
    · exact r.dis x y a h2 g2
  · rintro k a (⟨h1, rfl⟩ | ⟨h1, h2⟩)
    · exact ⟨del_same, (by rw [upd_same]; exact Option.some_ne_none _), hS⟩
    · obtain ⟨c1, c2, c3⟩ := r.bnd k a h2
      rw [del_ne (npd k a h2), upd_ne (npd k a h2)]
      exact ⟨c1, c2, c3⟩
  · intro a o q
    have ne : a ≠ d := fun z => by rw [z, del_same] at q; cases q
    rw [del_ne ne] at q
    rw [upd_ne ne]
    exact j.sub a o q
  · intro a o q q2
    rw [upd_ne fun z => by rw [z] at q q2; exact hS.elim (fun y => by rw [y] at q; cases q) q2]
    exact j.keep a o q q2
  · intro a o q
    rw [del_ne fun z => by rw [z, hF0] at q; cases q]
    exact j.f0 a o q
  · intro a q
    have ne : a ≠ d := fun z => by rw [z, del_same] at q; exact q rfl
    rw [del_ne ne] at q
    exact j.fs a q
end
theorem walks_keys {K : PySem.W.Frag} {F H : Hp} {d : Addr} {od : Obj} {kk : List Key} {vs : List V} (hd : F d = some (.frz od (.dK (kk.zip vs)))) (hl : kk.length = vs.length) : Walks K (Itk d od (kk.zip vs)) F H (kk.map kD) := by
  intro F' H' s s' i
  have h := s' _ _ (s _ _ hd)
  have hz : (kk.zip vs).length = kk.length := by rw [List.length_zip]; omega
  refine ⟨fun x e => ?_, fun e => ⟨h, by rw [hz]; rw [List.length_map] at e; exact e⟩⟩
  rw [List.getElem?_map] at e
  cases hk : kk[i]? with
  | none => rw [hk] at e; cases e
  | some k =>
    rw [hk] at e
    cases e
    have hil := (List.getElem?_eq_some_iff.mp hk).1
    refine ⟨⟨h, by rw [hz]; exact hil⟩, fun y H'' ⟨e1, k', v, e2, e3⟩ => ?_⟩
    subst e1 e3
    have : k' = k := by
      have q := congrArg (Option.map (·.1)) e2
      rw [← List.getElem?_map, List.map_fst_zip (by omega), hk] at q
      exact (Option.some.inj q).symm
    subst this
    refine ⟨F', .refl, ?_⟩
    cases k' with
    | inl z => exact .int z
    | inr z => exact .str z
section
variable {X : Cx} {W : WX} {pos : Pos}
theorem compBody {u : UM} {t : TM} {f : EM} {own : List Nat} (hu : ∀ d as, u d = some as → ∀ i ∈ as.map (·.1), i ∈ own) {σ : St} {Q : VK} {G : Gd} {F1 H1 : Hp} {e1 : Ev} {ds : List PyData} (j1 : J X.K X.mg G F1 e1 σ H1) (hsz : ds.length ≤ sz)
    (p2 : PostR X W G F1 σ (fun d F' H' => ∀ v, Fz X.K F' v d → Q v H') ((compL u t f own ds (wipeE e1 own)).bind fun ys e2 => .ok (.list ys) (restE own e1 e2))) {T : It} (w : Walks X.K T F1 H1 ds) (D : Addr) (hD : H1 D = none) :
    ∃ W : Nat → Nat → Hp → Prop, (∃ m, W 0 m (upd H1 D (.lst []))) ∧ ∀ i m H, W i m H →
  (T.stop i H ∧ Q (.ref D) H) ∨ (T.go i H ∧ ∃ Nx : Hp → Prop, (∀ H', Nx H' → ∃ m', m' < m ∧ W (i + 1) m' H') ∧ ∀ x H', T.yld i H x H' → canG X.K u x (wipe σ own) H' fun σ2 H2 => wipe σ2 own = wipe σ own ∧ canT X WF t σ2 H2 fun b H3 =>
    if b = true then canE X WF f σ2 H3 fun y H4 => ∃ acc, H4 D = some (.lst acc) ∧ acc.length < sizeLine ∧ Nx (upd H4 D (.lst (acc ++ [y]))) else Nx H3) := by
  have j2 := (j1.j0.wipe own).newO hD (.lst []) (v := .ref D) (o := .nd .lst (([] : List PyData).map .fr)) (rep_new (ds := []) .nil)
  refine ⟨fun i m H' => ∃ F' env' acc, Same F1 F' ∧ J0 X.K X.mg G F' (env' ++ [some (.nd .lst (acc.map .fr))]) (wipe σ own ++ [some (.ref D)]) H' ∧ i + m = ds.length ∧ acc.length ≤ i ∧
    PostR X W G F1 σ (fun d F' H' => ∀ v, Fz X.K F' v d → Q v H') ((compL u t f own (ds.drop i) env').bind fun ys e2 => .ok (.list (acc ++ ys)) (restE own e1 e2)),
    ⟨ds.length, F1, wipeE e1 own, [], Same.refl F1, j2, by omega, Nat.le_refl _, p2⟩, ?_⟩
  rintro i m H' ⟨F', env', acc, s', j', him, hacc, q⟩
  obtain ⟨wg, ws⟩ := w F' H' s' j'.sub i
  by_cases hlt : i < ds.length
  · obtain ⟨go, yld⟩ := wg _ (List.getElem?_eq_getElem hlt)
    rw [List.drop_eq_getElem_cons hlt] at q
    unfold compL at q
    refine .inr ⟨go, fun H2 => ∃ F2 env2 acc2, Same F1 F2 ∧ J0 X.K X.mg G F2 (env2 ++ [some (.nd .lst (acc2.map .fr))]) (wipe σ own ++ [some (.ref D)]) H2 ∧ acc2.length ≤ i + 1 ∧
      PostR X W G F1 σ (fun d F' H' => ∀ v, Fz X.K F' v d → Q v H') ((compL u t f own (ds.drop (i + 1)) env2).bind fun ys e2 => .ok (.list (acc2 ++ ys)) (restE own e1 e2)),
      fun H2 ⟨F2, env2, acc2, a1, a2, a3, a4⟩ => ⟨m - 1, by omega, F2, env2, acc2, a1, a2, by omega, a3, a4⟩, fun x H'' y => ?_⟩
    obtain ⟨F'', gr, fx⟩ := yld x H'' y
    -- the turn: the item, its names, the test, the element, the list
    have grow0 : ∀ {F a b c : Hp} {env : Ev} {σ : St}, Grow F a b c → J0 X.K X.mg G F env σ a → Same F b ∧ J0 X.K X.mg G b env σ c := by
      intro F a b c env σ g
      induction g with
      | refl => exact fun j => ⟨Same.refl _, j⟩
      | step g hp ih =>
        intro j
        obtain ⟨s, j1⟩ := ih j
        exact ⟨s.trans (same_new (j1.free hp).1), j1.newF hp _⟩
    obtain ⟨s'', j''⟩ := grow0 gr j'
    cases hu' : u ds[i] with
    | none => simp only [hu'] at q; exact q.elim
    | some as =>
      simp only [hu'] at q
      refine ⟨F'', ds[i], as, j''.sub, fx, hu', fun vs fvs => ⟨wipe_setAll (hu _ _ hu'), ?_⟩⟩
      obtain ⟨G', hio, jp, back⟩ := j''.protect
      have io0 : ∀ {σ : St}, ∀ p ∈ G'.io, σ[p.1]? = some (some p.2) := fun p hp => by rw [hio] at hp; cases hp
      have j3 := jp.setAll fvs
      refine ⟨G', F'', _, ⟨j3, io0⟩, ?_⟩
      cases ht : t (setEv env' as) with
      | no => rw [ht] at q; exact q.elim
      | exc c e => rw [ht] at q; exact q.elim
      | ok b e2 =>
        rw [ht] at q
        intro F2 H2 s2 j4
        have wl : wipe (setAll (wipe σ own) (as.map (·.1)) vs) own = wipe σ own := wipe_setAll (hu _ _ hu')
        cases b with
        | false =>
          refine iteF ?_
          have j5 := j4.j0.wipe own
          rw [wl] at j5
          exact ⟨F2, wipeE e2 own, acc, s'.trans (s''.trans s2), back F2 _ _ H2 s2 rfl j5, by omega, q⟩
        | true =>
          refine iteT ?_
          refine ⟨G', F2, e2, j4, ?_⟩
          have q' : PostR X W G F1 σ (fun d F' H' => ∀ v, Fz X.K F' v d → Q v H') (((f e2).nox.bind fun y e3 => (compL u t f own (ds.drop (i + 1)) (wipeE e3 own)).bind fun ys e4 => .ok (y :: ys) e4).bind fun ys e2 => .ok (.list (acc ++ ys)) (restE own e1 e2)) := q
          cases hf : f e2 with
          | no => rw [hf] at q'; exact q'.elim
          | exc c e => rw [hf] at q'; exact q'.elim
          | ok y e3 =>
            rw [hf] at q'
            intro F3 H3 s3 j6 z fz
            have j7 := j6.j0.wipe own
            rw [wl] at j7
            have j8 := back F3 _ _ H3 (s2.trans s3) rfl j7
            obtain ⟨vs4, h1, h2, j9⟩ := j8.push fz
            refine ⟨vs4, h1, by rw [h2, sz_eq]; omega, F3, wipeE e3 own, acc ++ [y], s'.trans (s''.trans (s2.trans s3)), j9, by rw [List.length_append, List.length_singleton]; omega, ?_⟩
            have e : (fun (ys : List PyData) (e2 : Ev) => (Res.ok (.list ((acc ++ [y]) ++ ys)) (restE own e1 e2) : Res PyData)) = fun ys e2 => .ok (.list (acc ++ y :: ys)) (restE own e1 e2) := by
              funext ys e2
              rw [List.append_assoc]
              rfl
            rw [e]
            have q2 : PostR X W G F1 σ (fun d F' H' => ∀ v, Fz X.K F' v d → Q v H') (((compL u t f own (ds.drop (i + 1)) (wipeE e3 own)).bind fun ys e4 => .ok (y :: ys) e4).bind fun ys e2 => .ok (.list (acc ++ ys)) (restE own e1 e2)) := q'
            rw [Res.bind_bind] at q2
            exact q2
  · have e : i = ds.length := by omega
    subst e
    rw [List.drop_length] at q
    refine .inl ⟨ws (Nat.le_refl _), ?_⟩
    obtain ⟨F2, s2, f2, j3⟩ := j'.freezeL (d := .list acc) (by rw [O.fz, fzL_fr]; rfl)
    have j4 := j1.j0.unwipe j3 (s'.trans s2)
    have q' : PostR X W G F1 σ (fun d F' H' => ∀ v, Fz X.K F' v d → Q v H') (.ok (.list (acc ++ [])) (restE own e1 env')) := q
    rw [List.append_nil] at q'
    exact q' F2 H' (s'.trans s2) ⟨j4, j1.io⟩ _ f2
/-- the keys of an owned dict of data -/
def keysO : Option (Option O) → Option (List PyData)
  | some (some (.nd (.dK ks) xs)) => (frsD xs).map fun _ => ks.map kD
  | _ => none
def eCompK (i : Nat) (u : UM) (t : TM) (f : EM) (own : List Nat) : EM := fun e => (keysO e[i]?).elim .no fun ks => if ks.length ≤ sz then (compL u t f own ks (wipeE (e.set i none) own)).nox.bind fun ys e2 => .ok (.list ys) ((restE own (e.set i none) e2).set i e[i]?.join) else .no
theorem keysO_some {o : Option (Option O)} {ks : List PyData} (h : keysO o = some ks) : ∃ (kk : List Key) (ds : List PyData), o = some (some (.nd (.dK kk) (ds.map .fr))) ∧ ks = kk.map kD := by
  match o, h with
  | some (some (.nd (.dK kk) xs)), h =>
    have h : (frsD xs).map (fun _ => kk.map kD) = some ks := h
    cases hx : frsD xs with
    | none => rw [hx] at h; cases h
    | some ds =>
      rw [hx] at h
      cases h
      exact ⟨kk, ds, by rw [frsD_eq hx], rfl⟩
theorem restE_set_len {i : Nat} {own : List Nat} {e e2 : Ev} : (restE own (e.set i none) e2).length = e2.length := restE_len
theorem canCompK {i : Nat} {u : UM} {t : TM} {f : EM} {own : List Nat} (hu : ∀ d as, u d = some as → ∀ i ∈ as.map (·.1), i ∈ own) (σ : St) (H : Hp) (Q : VK) (h : canE X W (eCompK i u t f own) σ H Q) :
    tLockE (tLc (iKeys (tVar i)) (canG X.K u) (canT X WF t) (canE X WF f) own) σ H Q := by
  obtain ⟨G, F, env, j, p⟩ := h
  unfold eCompK at p
  cases hk : keysO env[i]? with
  | none => rw [hk] at p; exact p.elim
  | some ks =>
    rw [hk] at p
    obtain ⟨kk, ds, he, rfl⟩ := keysO_some hk
    have p : PostR X W G F σ (fun d F' H' => ∀ v, Fz X.K F' v d → Q v H') (if (kk.map kD).length ≤ sz then (compL u t f own (kk.map kD) (wipeE (env.set i none) own)).nox.bind fun ys e2 => .ok (.list ys) ((restE own (env.set i none) e2).set i env[i]?.join) else .no) := p
    by_cases hsz : (kk.map kD).length ≤ sz
    case neg =>
      rw [if_neg hsz] at p
      exact p.elim
    rw [if_pos hsz, he] at p
    obtain ⟨d, vs, h1, h2, h3, h4, h5, h6, h7, h8⟩ := j.j0.lock he
    refine ⟨d, .dK (kk.zip vs), h2, trivial, fun od => ?_⟩
    have jl : J X.K X.mg G (upd F d (.frz od (.dK (kk.zip vs)))) (env.set i none) σ (upd H d (.frz od (.dK (kk.zip vs)))) := ⟨h8 od, j.io⟩
    have hFd : upd F d (.frz od (.dK (kk.zip vs))) d = some (.frz od (.dK (kk.zip vs))) := upd_same
    refine ⟨.ref d, h1, d, od, rfl, .inl ⟨kk.zip vs, upd_same, fun D hD => compBody (W := W) (t := t) (f := f) (Q := fun v H' => H' d = some (.frz od (.dK (kk.zip vs))) ∧ Q v (upd H' d (.dK (kk.zip vs)))) hu jl hsz ?_ (walks_keys hFd h3) D hD⟩⟩
    cases hr : compL u t f own (kk.map kD) (wipeE (env.set i none) own) with
    | no => rw [hr] at p; exact p.elim
    | exc c e => rw [hr] at p; exact p.elim
    | ok ys e2 =>
      rw [hr] at p
      intro F' H' s' j' v fv
      have hd' := s' _ _ hFd
      have hlt : i < (restE own (env.set i none) e2).length := by
        rw [j'.j0.len, ← j.j0.len]
        exact (List.getElem?_eq_some_iff.mp he).1
      have ju := j'.j0.unlock (kk := kk) (vs := vs) (ds := ds) hd' hlt h1 h3 ((h4.mono (same_new h5)).mono s') h6 h7
      have sm : Same F (delF F' d) := fun a o q => by
        rw [del_ne fun z => by rw [z, h5] at q; cases q]
        exact s' _ _ (same_new h5 a o q)
      exact ⟨j'.sub _ _ hd', p (delF F' d) _ sm ⟨ju, j'.io⟩ v (fv.del hd')⟩
theorem d_compK (i : Nat) {elt tg : Expr} {x : Str} {np : Pos} {ifs : List Expr} {scope : Scope} {own : List (Str × Nat)} {u : UM} {t : TM} {f : EM} {is : List Nat} (hc : X.calm = true) (hN : X.N.Nodup) (ok : BlkOk X.N X.env.scope scope own)
    (hg : ∀ (s : Shared) (H : Hp) (C : Addr) (cl : List (Str × Addr)) (fp : List Addr), DG (X.blk s H scope (compEnvC scope cl C X.env) fp) is tg u) (ht : ∀ (s : Shared) (H : Hp) (C : Addr) (cl : List (Str × Addr)) (fp : List Addr), DTs (X.blk s H scope (compEnvC scope cl C X.env) fp) WF ifs t)
    (he : ∀ (s : Shared) (H : Hp) (C : Addr) (cl : List (Str × Addr)) (fp : List Addr), DE (X.blk s H scope (compEnvC scope cl C X.env) fp) WF elt f) (hown : ∀ i ∈ is, i ∈ own.map (·.2) := by decide) (hs : ∀ y, foldedSetIterable (.Name x np) X.env y = pure y := by intro _; rfl)
    (hNx : X.N[i]? = some x := by rfl) (hv : Vis X.env.scope x := by first | exact Or.inl rfl | exact Or.inr (Or.inl rfl) | exact Or.inr (Or.inr rfl)) (hd : (x == ("__debug__" : Str)) = false := by decide) (hcd : (x == ("__classdict__" : Str)) = false := by decide) :
    DE X W (.ListComp elt [⟨tg, .Name x np, ifs, 0⟩] scope pos) (eCompK i u t f (own.map (·.2))) :=
  ⟨fun pins s σ H Q I h => (pe_lock (pe_lc (g := canG X.K u) (tt := canT X WF t) (te := canE X WF f) hc hN (pi_keys (pe_var hNx hv hd hcd)) ok (fun s H C cl fp => (hg s H C cl fp).run) (fun s H C cl fp => (ht s H C cl fp).run) (fun s H C cl fp => he s H C cl fp) hs)).run pins s σ H Q I
    (canCompK (fun d as h' i hi' => hown i (by rw [← (hg s H 0 [] []).st d as h']; exact hi')) σ H Q h)⟩
end
end Ly

set_option Elab.async false
set_option linter.all false
set_option maxRecDepth 100000
set_option maxHeartbeats 4000000
set_option autoImplicit false
namespace Ly
open PySem PySem.Spec L2
/-! ## x.pop(0), x an owned list of data -/
def popK (xs : List O) (ds : List PyData) (e : Ev) (i : Nat) : Res PyData := match ds, frsD xs with
  | [.int 0], some (d :: r) => .ok d (e.set i (some (.nd .lst (r.map .fr))))
  | _, _ => .no
theorem popK_no {xs : List O} {ds : List PyData} {e : Ev} {i : Nat} : popK xs ds e i = .no ∨ ∃ d r, ds = [.int 0] ∧ xs = (d :: r).map .fr ∧ popK xs ds e i = .ok d (e.set i (some (.nd .lst (r.map .fr)))) := by
  unfold popK
  split
  · rename_i d r h
    exact .inr ⟨d, r, rfl, frsD_eq h, rfl⟩
  · exact .inl rfl
def ePop0 (i : Nat) (l : LM) : EM := fun e => (lstAt e i).elim .no fun _ => (l e).bind fun ds e1 => (lstAt e1 i).elim .no fun xs => popK xs ds e1 i
section
variable {X : Cx} {W : WX} {ks : List Nat} {pos : Pos}
theorem d_pop0 (i : Nat) {x : Str} {a : Expr} {l : LM} {np apos cpos : Pos} (ha : DL X W [a] l) (hN : X.N[i]? = some x := by rfl) (hv : Vis X.env.scope x := by first | exact Or.inl rfl | exact Or.inr (Or.inl rfl) | exact Or.inr (Or.inr rfl)) (hd : (x == ("__debug__" : Str)) = false := by decide) (hcd : (x == ("__classdict__" : Str)) = false := by decide)
    (hbase : attributeBase (.Name x np) "pop" X.env (eval (.Name x np) X.env) = eval (.Name x np) X.env := by rfl)
    (hfew : ((backTo cpos (starEach [a] X.env)).all (fun x => !x.1) && (backToKw cpos (keywordEach [] X.env)).all (fun x => x.1.isSome) && decide (([a] : List Expr).length + ([] : List Keyword).length + (if ([] : List Keyword).isEmpty then 0 else 1) < 30)) = true := by rfl)
    (hline : (apos.endLine == cpos.line) = true := by rfl) (hst : starEach [a] X.env = (false, eval a X.env) :: starEach [] X.env := by rfl) (hplain : (backTo cpos (starEach [] X.env)).any (·.1) = false := by rfl) : DE X W (.Call (.Attribute (.Name x np) "pop" apos) [a] [] cpos) (ePop0 i l) := by
  refine weakE (pe_bm PySem.F.plainAttrs_list PySem.F.slot_list_pop PySem.F.type_list_pop mt_popAt (pe_var hN hv hd hcd) ha hbase hfew hline hst hplain) fun σ H Q ⟨G, F, env, j, p⟩ => ?_
  unfold ePop0 at p
  cases he : lstAt env i with
  | none => rw [he] at p; exact p.elim
  | some xs =>
    rw [he] at p
    have p : PostR X W G F σ (fun d F' H' => ∀ v, Fz X.K F' v d → Q v H') ((l env).bind fun ds e1 => (lstAt e1 i).elim .no fun xs => popK xs ds e1 i) := p
    have he := lstAt_some he
    obtain ⟨S, v, g1, g2, g3⟩ := j.row he
    obtain ⟨la, vs, Sf, rfl, q3, q4, q5, q6, q7, q8⟩ := g2.lst
    refine ⟨_, g1, .inl ⟨rfl, vs, SqL.of q3⟩, G, F, env, j, (PostR.bind p).imp fun ds F1 H1 s1 ⟨e1, j1, p2⟩ ws fws => ?_⟩
    cases he1 : lstAt e1 i with
    | none => rw [he1] at p2; exact p2.elim
    | some ys =>
      rw [he1] at p2
      have p2 : PostR X W G F1 σ (fun d F' H' => ∀ v, Fz X.K F' v d → Q v H') (popK ys ds e1 i) := p2
      rcases popK_no (xs := ys) (ds := ds) (e := e1) (i := i) with hk | ⟨dd, rr, rfl, hys, hk⟩
      · rw [hk] at p2
        exact p2.elim
      · rw [hk] at p2
        have he1 := lstAt_some he1
        obtain ⟨S1, v1, k1, k2, k3⟩ := j1.row he1
        rw [g1] at k1
        cases k1
        obtain ⟨lb, us, Sg, el, r3, r4, r5, r6, r7, r8⟩ := k2.lst
        cases el
        have hws : ws = [.int 0] := by
          cases fws with
          | cons f1 f2 =>
            cases f2
            cases f1
            rfl
        subst hws
        have hlen : 0 < us.length := by rw [r5, hys, List.length_map, List.length_cons]; omega
        have hu0 : us[0]? = some us[0] := List.getElem?_eq_getElem hlen
        have hx0 : ys[0]? = some (.fr dd) := by rw [hys]; rfl
        have r := r6 _ _ _ hu0 hx0
        generalize us[0] = w at r hu0
        cases r with
        | fr fz =>
          refine ⟨la, us, 0, 0, w, rfl, rfl, r3, by omega, by omega, ?_, hu0, ?_⟩
          · unfold seqIndex?
            simp only [Int.lt_irrefl, if_false]
            rw [if_pos (by simp; omega)]
            rfl
          · refine p2 F1 _ (Same.refl F1) (j1.put he1 g1 fun S3 w6 => ?_) _ fz
            obtain ⟨b, vs3, Sf3, eb, z3, z4, z5, z6, _⟩ := w6.lst
            cases eb
            refine ⟨z4, w6.lst_upd (by rw [List.length_eraseIdx_of_lt hlen, List.length_map, r5, hys, List.length_map, List.length_cons]; omega) fun vs4 y1 y2 i2 v2 o2 w1 w2 => ?_⟩
            rw [r3] at y1
            cases y1
            right
            rw [List.getElem?_map] at w2
            cases hr : rr[i2]? with
            | none => rw [hr] at w2; cases w2
            | some d2 =>
              rw [hr] at w2
              cases w2
              refine ⟨d2, rfl, ?_⟩
              have hi : us[i2 + 1]? = some v2 := by
                rw [List.getElem?_eraseIdx_of_ge (Nat.zero_le _)] at w1
                exact w1
              have hy2 : ys[i2 + 1]? = some (.fr d2) := by
                rw [hys, List.map_cons, List.getElem?_cons_succ, List.getElem?_map, hr]
                rfl
              have := r6 _ _ _ hi hy2
              cases this with
              | fr f => exact f
end
end Ly

set_option Elab.async false
set_option linter.all false
set_option maxRecDepth 100000
set_option maxHeartbeats 4000000
set_option autoImplicit false
namespace Ly
open PySem PySem.Spec L2
/-! ## {k: v for .. in .. if ..}: keys of either sort (numbers and texts; tuples of them) -/
section
variable {X : Cx} {pins : List (Addr × Obj)} {σ : St} {H : Hp} {s : Shared} {a : Addr} {y v : V} {u r : Value} {E : Value → Shared → Prop}
theorem dictSet_any {H' : Hp} {Q : Unit → Shared → Prop} (hu : X.A.units < cLine) (I : Inv X pins σ H s) (g : DPut H a y v H') (ry : RelV y u) (rv : RelV v r) (h : ∀ s', Inv X pins σ H' s' → Q () s') :
    wpAny (model X.prog X.w) X.A (dictSet a u r) Q E s := by
  rcases g with ⟨kvs, k, e, ey, l, eH⟩ | ⟨kvs, k, b, e, ey, eb, l, eH⟩
  · subst ey eH
    exact d_dictSet I e l ry rv h
  · subst ey eH
    cases (show u = Value.ref b from ry)
    obtain ⟨z, hd, xs, rel, dd⟩ := dt_of I.hok e
    have hz : xs.length ≤ sizeLine := by rw [← Paired.length rel]; exact z
    have hl : (putK kvs k v).length ≤ sizeLine := by have := length_putK kvs k v; omega
    refine wpAny_dictSet_heap (hsz := hz) hu (key_of I.hok eb) dd fun h' dd' hs => h _ ?_
    obtain ⟨q, es, ep, hq, h2, h3, h4, _, h5⟩ := dd'
    refine d_write I (by rw [e]; exact True.intro) hs ⟨q, hq⟩ ⟨hl, hd, _, (rel.put k eb rv).keeps fun c ys ec => ?_, q, es, ep, hq, h2, h3, h4, h5⟩
    rw [upd_ne (ne_of ec e (fun z => nomatch z))]
    exact ec
end
section
variable {X : Cx}
/-- D the new dict, e0 what it is at first -/
def tDg (e0 : HO) (wi : TI) (g : TG) (tt : TT) (tk tv : TE) (vs : List Nat) : TE := fun σ H Q => wi σ H fun J H1 => ∀ D, H1 D = none → ∃ W : Nat → Nat → Hp → Prop, (∃ m, W 0 m (upd H1 D e0)) ∧ ∀ i m H, W i m H →
  (J.stop i H ∧ Q (.ref D) H) ∨ (J.go i H ∧ ∃ Nx : Hp → Prop, (∀ H', Nx H' → ∃ m', m' < m ∧ W (i + 1) m' H') ∧ ∀ x H', J.yld i H x H' → g x (wipe σ vs) H' fun σ2 H2 => wipe σ2 vs = wipe σ vs ∧ tt σ2 H2 fun b H3 =>
    if b = true then tk σ2 H3 fun y H4 => tv σ2 H4 fun z H5 => ∃ H6, DPut H5 D y z H6 ∧ Nx H6 else Nx H3)
theorem pe_dg {e0 : HO} (he0 : ∀ (H : Hp) (h : Heap), sysModules < h.objs.size → ObjOk X.prog X.w H (h.push { cls := .type "dict", data := .dict #[] }) h.objs.size e0) (hu : X.A.units < cLine)
    {kx vx tg iter : Expr} {ifs : List Expr} {scope : Scope} {own : List (Str × Nat)} {pos : Pos} {wi : TI} {g : TG} {tt : TT} {tk tv : TE} (hc : X.calm = true) (hN : X.N.Nodup) (hi : PI X tg iter wi) (ok : BlkOk X.N X.env.scope scope own)
    (hg : ∀ (s : Shared) (H : Hp) (C : Addr) (cl : List (Str × Addr)) (fp : List Addr), PG (X.blk s H scope (compEnvC scope cl C X.env) fp) tg g) (ht : ∀ (s : Shared) (H : Hp) (C : Addr) (cl : List (Str × Addr)) (fp : List Addr), PTs (X.blk s H scope (compEnvC scope cl C X.env) fp) ifs tt)
    (hk : ∀ (s : Shared) (H : Hp) (C : Addr) (cl : List (Str × Addr)) (fp : List Addr), PE (X.blk s H scope (compEnvC scope cl C X.env) fp) kx tk)
    (he : ∀ (s : Shared) (H : Hp) (C : Addr) (cl : List (Str × Addr)) (fp : List Addr), PE (X.blk s H scope (compEnvC scope cl C X.env) fp) vx tv) (hs : ∀ x, foldedSetIterable iter X.env x = pure x := by intro _; rfl) :
    PE X (.DictComp kx vx [⟨tg, iter, ifs, 0⟩] scope pos) (tDg e0 wi g tt tk tv (own.map (·.2))) := by
  refine ⟨fun pins s σ H Q I h => ?_⟩
  rw [arm_eval_DictComp]
  have hfree : ∀ y ∈ scope.names, y.2 = .free → ∃ c, X.env.cells.lookup y.1 = some c := fun y hy e => by
    rcases ok.free y hy e with k | k
    · exact I.ok.has _ (.inl k)
    · exact I.ok.has _ (.inr k)
  refine wpAny_comprehension_free rfl hs (closure_ok hfree) ok.kind (fun y hy e => by rw [ok.uniq y hy, e])
    (thn (hi.run pins s σ H _ I h) fun xv s1 hx => thn hx fun itv s2 h2 => ?_)
  obtain ⟨it, fp, tn, J, H2, e, I2, T, st2, f2, q⟩ := h2
  subst e
  refine wpAny_newObj_type (newEnv_comp ?_)
  generalize hD : s2.heap.objs.size = D
  obtain ⟨W, ⟨m0, w0⟩, turn⟩ := q D (I2.hok.fresh (Nat.le_of_eq hD))
  generalize hs3 : ({ s2 with heap := s2.heap.push { cls := .type "dict", data := .dict #[] } } : Shared) = s3
  have h3 : s3.heap = s2.heap.push { cls := .type "dict", data := .dict #[] } := by rw [← hs3]
  have I3 : Inv X pins σ (upd H2 D e0) s3 := by
    rw [← hs3]
    refine I2.laid (t' := s2.toks) (fun b o e => Heap.get?_push_of_some _ e) (Nat.le_of_eq hD) ?_
    rw [← hD]
    exact he0 _ s2.heap I2.big
  have f3 : ∀ b ∈ fp, FpOk X pins (upd H2 D e0) b ∧ b < s3.heap.objs.size := fun b hb => by
    obtain ⟨o, e, _⟩ := T.obj _ _ st2 b hb
    have hlt := Heap.lt_size e
    refine ⟨⟨?_, (f2 b hb).2⟩, by rw [h3, Heap.size_push]; exact Nat.lt_succ_of_lt hlt⟩
    rw [upd_ne (by rw [← hD]; exact Nat.ne_of_lt hlt)]
    exact (f2 b hb).1
  have st3 : tn 0 s3.heap := T.keep _ _ _ st2 fun b _ o e => by rw [h3]; exact Heap.get?_push_of_some _ e
  have I4 := block_start I3 ok hN f3
  generalize hH3 : upd H2 D e0 = H3 at I3 I4 w0 f3
  generalize hcl : cellsFrom (s3.heap.objs.size + 1) scope.names (cloFrom X.env.cells scope.names []) = cl at I4
  have pg := hg s3 H3 s3.heap.objs.size cl fp
  have pt := ht s3 H3 s3.heap.objs.size cl fp
  have pk := hk s3 H3 s3.heap.objs.size cl fp
  have pe := he s3 H3 s3.heap.objs.size cl fp
  have nfp : ∀ b ∈ fp, H3 b = none := fun b hb => (f3 b hb).1.1
  generalize hce : compEnvC scope cl s3.heap.objs.size X.env = ce at I4 pg pt pk pe
  have cL : ce.locals = s3.heap.objs.size := by subst hce; rfl
  generalize hs4 : ({ s3 with heap := pushCells (s3.heap.push { cls := .type "dict", data := .dict #[] }) scope.names } : Shared) = s4 at I4
  have st4 : tn 0 s4.heap := T.keep _ _ _ st3 fun b _ o e => by rw [← hs4]; exact pushCells_keeps _ _ _ _ (Heap.get?_push_of_some _ e)
  have stat : ∀ {σ' : St} {H' : Hp} {s' : Shared}, Inv (X.blk s3 H3 scope ce fp) [] σ' H' s' → (∀ b ∈ fp, H' b = none) → ∀ b ∈ fp, FpOk (X.blk s3 H3 scope ce fp) [] H' b := fun {σ' H' s'} I' hn b hb =>
    ⟨hn b hb, (I'.ok.exf b hb).1, I'.ok.exfs b hb, .inl hb, fun x c e => (I'.ok.exf b hb).2 x c e, fun p hp => absurd (show p ∈ ([] : List (Addr × Obj)) ++ [] from hp) (by simp)⟩
  have loop : codeAny (model X.prog X.w) X.A (.compLoop (.DictComp kx vx [⟨tg, iter, ifs, 0⟩] scope pos) 0 (.ref it) (.ref D) ce) (compPost (model X.prog X.w) X.A X.xe none (fun u s1 => ∃ x H1, Inv X pins σ H1 s1 ∧ RelV x u ∧ Q x H1) (.ref D) s3.heap.objs.size) s4 := by
    refine compLoop_anyD (fun n s' => ∃ i H', Inv (X.blk s3 H3 scope ce fp) [] (wipe σ (own.map (·.2))) H' s' ∧ tn i s'.heap ∧ (∀ b ∈ fp, H' b = none) ∧ W i n H') ?_ m0 ⟨0, H3, I4, st4, nfp, w0⟩
    rintro n s5 ⟨i, H5, I5, st5, n5, w5⟩
    rcases turn i n H5 w5 with ⟨stop, qq⟩ | ⟨go, Nx, hNx, step⟩
    · refine thnF (T.done (X.blk s3 H3 scope ce fp) rfl rfl rfl hc i [] s5 _ H5 (fun _ _ => False) I5 (stat I5 n5) st5 stop) fun r s6 ⟨hr, I6⟩ => ?_
      subst hr
      have I7 : Inv X pins σ H5 s6 := I3.call' (ch := fp) I6.os I6.base I6.hok I6.bare fun b hb => ⟨(f3 b hb).1.2.2.2.1, (f3 b hb).1.2.1, (f3 b hb).1.2.2.2.2.1, (f3 b hb).1.2.2.2.2.2⟩
      have nC : H5 s3.heap.objs.size = none := by
        have z : H5 ce.locals = none := I6.free
        rwa [cL] at z
      obtain ⟨m, hn, _⟩ := I6.loc
      have hn : s6.heap.Ns ce.locals m := hn
      rw [cL] at hn
      obtain ⟨f0, f1, f2', f3', f4, f5⟩ := I3.fpOk (Nat.le_refl _) nC
      exact ⟨m, hn, fun h'' sb => ⟨.ref D, H5, I7.turned (t' := s6.toks) (fun b o hb e => (sb.2 b hb).trans e) f0 f1 f3' f4 f5, rfl, qq⟩⟩
    · refine thnF (T.item (X.blk s3 H3 scope ce fp) rfl rfl rfl hc i [] s5 _ H5 (fun _ _ => False) I5 (stat I5 n5) st5 go) fun r s6 ⟨u, hr, h6⟩ => ?_
      subst hr
      refine thnF h6 fun _ s7 ⟨x, H7, I7, r7, y7, st7, n7⟩ => ?_
      have I7' := I7.pinned (stat I7 n7) (T.obj _ _ st7)
      refine thnF (pg.run _ s7 _ H7 x u _ I7' r7 (step x H7 y7)) fun _ s8 ⟨σ8, H8, I8, hw8, q8⟩ => ?_
      refine thnF (pt.run _ s8 σ8 H8 _ I8 q8) fun b s9 ⟨H9, I9, q9⟩ => ?_
      have fin : ∀ {s' : Shared} {H' : Hp}, Inv (X.blk s3 H3 scope ce fp) ([] ++ pinsAt fp s7.heap) σ8 H' s' → Nx H' → ∃ m, m < n ∧ ∃ i H', Inv (X.blk s3 H3 scope ce fp) [] (wipe σ (own.map (·.2))) H' s' ∧ tn i s'.heap ∧ (∀ b ∈ fp, H' b = none) ∧ W i m H' := fun {s' H'} I' nx => by
        obtain ⟨m', hm, w'⟩ := hNx H' nx
        have pin' : ∀ b ∈ fp, ∀ o, s7.heap.get? b = some o → s'.heap.get? b = some o ∧ H' b = none := fun b hb o e =>
          let z := I'.pin (b, o) (List.mem_append_right _ (List.mem_append_right _ (mem_pinsAt hb e)))
          ⟨z.1, z.2.1⟩
        have hl : (wipe σ (own.map (·.2))).length = σ8.length := by rw [← hw8, wipe_length]
        refine ⟨m', hm, i + 1, H', (I'.unpinned (pins := [])).weak hl (fun j v e => ?_), T.keep _ _ _ st7 fun b hb o e => (pin' b hb o e).1, fun b hb => ?_, w'⟩
        · rw [← hw8] at e
          exact (wipe_some e).1
        · obtain ⟨o, e, _⟩ := T.obj _ _ st7 b hb
          exact (pin' b hb o e).2
      cases b with
      | false =>
        simp only [Bool.false_eq_true, if_false] at q9 ⊢
        exact fin I9 q9
      | true =>
        simp only [if_true] at q9 ⊢
        refine thnF (pk.run _ s9 σ8 H9 _ I9 q9) fun z s10 ⟨yk, H10, I10, r10, q10⟩ => ?_
        refine thnF (pe.run _ s10 σ8 H10 _ I10 q10) fun z2 s11 ⟨yv, H11, I11, r11, H12, dp, nx⟩ => ?_
        exact dictSet_any (X := X.blk s3 H3 scope ce fp) hu I11 dp r10 r11 fun s12 I12 => fin I12 nx
  have loop2 := codeAny_compStart_dict loop (T.self X.A 0 _ _ _ st4 loop)
  subst hs4 hce hcl
  exact loop2
end
/-! ### in the layer -/
def compD (u : UM) (t : TM) (fk fv : EM) (own : List Nat) : List PyData → O → Ev → Res O
  | [], o, e => .ok o e
  | d :: ds, o, e => match u d with
    | none => .no
    | some as => (t (setEv e as)).nox.bind fun b e2 => if b then (fk e2).nox.bind fun k e3 => (fv e3).nox.bind fun v e4 => (dputO o k v).elim .no fun o' => compD u t fk fv own ds o' (wipeE e4 own) else compD u t fk fv own ds o (wipeE e2 own)
def newD (tt : Bool) : O := if tt then mkT [] else mkK []
def finD (e1 e2 : Ev) (own : List Nat) (o : O) : Res PyData := o.fz.elim .no fun d => .ok d (restE own e1 e2)
def eDC (tt : Bool) (it : LM) (u : UM) (t : TM) (fk fv : EM) (own : List Nat) : EM := fun e => (it e).bind fun ds e1 => if ds.length ≤ sz then (compD u t fk fv own ds (newD tt) (wipeE e1 own)).bind fun o e2 => finD e1 e2 own o else .no
def newH (tt : Bool) : HO := if tt then .dT [] else .dK []
section
variable {K : PySem.W.Frag} {mg : MG} {G : Gd} {F H : Hp} {env : Ev} {σ : St}
theorem J0.noIo (j : J0 K mg G F env σ H) : J K mg { G with io := [] } F env σ H := ⟨⟨j.len, let ⟨Sf, r⟩ := j.ex; ⟨Sf, ⟨r.row, r.dis, r.bnd⟩⟩, j.sub, j.keep, j.f0, j.fs⟩, fun p hp => by cases hp⟩
theorem J0.ofIo {G' : Gd} (h1 : G'.F0 = G.F0) (h2 : G'.H0 = G.H0) (h3 : G'.S0 = G.S0) (j : J0 K mg G' F env σ H) : J0 K mg G F env σ H := by
  obtain ⟨F0, H0, S0, io⟩ := G
  obtain ⟨F0', H0', S0', io'⟩ := G'
  subst h1 h2 h3
  exact ⟨j.len, let ⟨Sf, r⟩ := j.ex; ⟨Sf, ⟨r.row, r.dis, r.bnd⟩⟩, j.sub, j.keep, j.f0, j.fs⟩
/-- d[k] = x, the dict the last row -/
theorem J0.dputLast {o o' : O} {D : Addr} {y w : V} {k d : PyData} (j : J0 K mg G F (env ++ [some o]) (σ ++ [some (.ref D)]) H) (fy : Fz K F y k) (fw : Fz K F w d) (hp : dputO o k d = some o') :
    ∃ H', DPut H D y w H' ∧ J0 K mg G F (env ++ [some o']) (σ ++ [some (.ref D)]) H' := by
  have hl : env.length = σ.length := by
    have := j.len
    rw [List.length_append, List.length_append, List.length_singleton, List.length_singleton] at this
    omega
  have he : (env ++ [some o])[env.length]? = some (some o) := by rw [List.getElem?_append_right (Nat.le_refl _), Nat.sub_self]; rfl
  have hv : (σ ++ [some (V.ref D)])[env.length]? = some (some (.ref D)) := by rw [hl, List.getElem?_append_right (Nat.le_refl _), Nat.sub_self]; rfl
  obtain ⟨a, H', ea, h1, h2⟩ := j.noIo.dput he hv fy fw hp
  cases ea
  refine ⟨H', h1, J0.ofIo (G' := { G with io := [] }) rfl rfl rfl ?_⟩
  have e : (env ++ [some o]).set env.length (some o') = env ++ [some o'] := by
    rw [List.set_append_right _ _ (Nat.le_refl _), Nat.sub_self]
    rfl
  rw [e] at h2
  exact h2.j0
end
theorem rep_newD {K : PySem.W.Frag} {mg : MG} {F H : Hp} {p : Addr} (tt : Bool) : Rep K mg F (upd H p (newH tt)) (fun b => b = p) (.ref p) (newD tt) := by
  cases tt with
  | true => exact .nd (N := fun b => b = p) (Sf := fun _ _ => False) (vs := []) ⟨upd_same, rfl, fun b => Iff.rfl⟩ (fun b z => z) rfl (fun j v o e => by cases e) (fun _ _ _ z => z.elim) (fun _ _ z => z.elim)
  | false => exact .nd (N := fun b => b = p) (Sf := fun _ _ => False) (vs := []) ⟨upd_same, rfl, fun b => Iff.rfl⟩ (fun b z => z) rfl (fun j v o e => by cases e) (fun _ _ _ z => z.elim) (fun _ _ z => z.elim)
section
variable {X : Cx} {W : WX} {pos : Pos}
theorem canDC {tt : Bool} {it : LM} {u : UM} {t : TM} {fk fv : EM} {own : List Nat} (hu : ∀ d as, u d = some as → ∀ i ∈ as.map (·.1), i ∈ own) (σ : St) (H : Hp) (Q : VK) (h : canE X W (eDC tt it u t fk fv own) σ H Q) :
    tDg (newH tt) (canI X W it) (canG X.K u) (canT X WF t) (canE X WF fk) (canE X WF fv) own σ H Q := by
  obtain ⟨G, F, env, j, p⟩ := h
  refine ⟨G, F, env, j, (PostR.bind p).imp fun ds F1 H1 s1 ⟨e1, j1, p2⟩ T w D hD => ?_⟩
  by_cases hsz : ds.length ≤ sz
  case neg =>
    rw [if_neg hsz] at p2
    exact p2.elim
  rw [if_pos hsz] at p2
  have j2 := (j1.j0.wipe own).newO hD (newH tt) (v := .ref D) (o := newD tt) (rep_newD tt)
  refine ⟨fun i m H' => ∃ F' env' o, Same F1 F' ∧ J0 X.K X.mg G F' (env' ++ [some o]) (wipe σ own ++ [some (.ref D)]) H' ∧ i + m = ds.length ∧
    PostR X W G F1 σ (fun d F' H' => ∀ v, Fz X.K F' v d → Q v H') ((compD u t fk fv own (ds.drop i) o env').bind fun o e2 => finD e1 e2 own o),
    ⟨ds.length, F1, wipeE e1 own, newD tt, Same.refl F1, j2, by omega, p2⟩, ?_⟩
  rintro i m H' ⟨F', env', o, s', j', him, q⟩
  obtain ⟨wg, ws⟩ := w F' H' s' j'.sub i
  by_cases hlt : i < ds.length
  · obtain ⟨go, yld⟩ := wg _ (List.getElem?_eq_getElem hlt)
    rw [List.drop_eq_getElem_cons hlt] at q
    unfold compD at q
    refine .inr ⟨go, fun H2 => ∃ F2 env2 o2, Same F1 F2 ∧ J0 X.K X.mg G F2 (env2 ++ [some o2]) (wipe σ own ++ [some (.ref D)]) H2 ∧
      PostR X W G F1 σ (fun d F' H' => ∀ v, Fz X.K F' v d → Q v H') ((compD u t fk fv own (ds.drop (i + 1)) o2 env2).bind fun o e2 => finD e1 e2 own o),
      fun H2 ⟨F2, env2, o2, a1, a2, a4⟩ => ⟨m - 1, by omega, F2, env2, o2, a1, a2, by omega, a4⟩, fun x H'' y => ?_⟩
    obtain ⟨F'', gr, fx⟩ := yld x H'' y
    have grow0 : ∀ {F a b c : Hp} {env : Ev} {σ : St}, Grow F a b c → J0 X.K X.mg G F env σ a → Same F b ∧ J0 X.K X.mg G b env σ c := by
      intro F a b c env σ g
      induction g with
      | refl => exact fun j => ⟨Same.refl _, j⟩
      | step g hp ih =>
        intro j
        obtain ⟨s, j1⟩ := ih j
        exact ⟨s.trans (same_new (j1.free hp).1), j1.newF hp _⟩
    obtain ⟨s'', j''⟩ := grow0 gr j'
    cases hu' : u ds[i] with
    | none => simp only [hu'] at q; exact q.elim
    | some as =>
      simp only [hu'] at q
      refine ⟨F'', ds[i], as, j''.sub, fx, hu', fun vs fvs => ⟨wipe_setAll (hu _ _ hu'), ?_⟩⟩
      obtain ⟨G', hio, jp, back⟩ := j''.protect
      have io0 : ∀ {σ : St}, ∀ p ∈ G'.io, σ[p.1]? = some (some p.2) := fun p hp => by rw [hio] at hp; cases hp
      have j3 := jp.setAll fvs
      refine ⟨G', F'', _, ⟨j3, io0⟩, ?_⟩
      have wl : wipe (setAll (wipe σ own) (as.map (·.1)) vs) own = wipe σ own := wipe_setAll (hu _ _ hu')
      cases ht : t (setEv env' as) with
      | no => rw [ht] at q; exact q.elim
      | exc c e => rw [ht] at q; exact q.elim
      | ok b e2 =>
        rw [ht] at q
        intro F2 H2 s2 j4
        cases b with
        | false =>
          refine iteF ?_
          have j5 := j4.j0.wipe own
          rw [wl] at j5
          exact ⟨F2, wipeE e2 own, o, s'.trans (s''.trans s2), back F2 _ _ H2 s2 rfl j5, q⟩
        | true =>
          refine iteT ?_
          refine ⟨G', F2, e2, j4, ?_⟩
          have q : PostR X W G F1 σ (fun d F' H' => ∀ v, Fz X.K F' v d → Q v H') (((fk e2).nox.bind fun k e3 => (fv e3).nox.bind fun v e4 => (dputO o k v).elim .no fun o' => compD u t fk fv own (ds.drop (i + 1)) o' (wipeE e4 own)).bind fun o e2 => finD e1 e2 own o) := q
          cases hfk : fk e2 with
          | no => rw [hfk] at q; exact q.elim
          | exc c e => rw [hfk] at q; exact q.elim
          | ok k e3 =>
            rw [hfk] at q
            intro F3 H3 s3 j6 y fy
            refine ⟨G', F3, e3, j6, ?_⟩
            have q : PostR X W G F1 σ (fun d F' H' => ∀ v, Fz X.K F' v d → Q v H') (((fv e3).nox.bind fun v e4 => (dputO o k v).elim .no fun o' => compD u t fk fv own (ds.drop (i + 1)) o' (wipeE e4 own)).bind fun o e2 => finD e1 e2 own o) := q
            cases hfv : fv e3 with
            | no => rw [hfv] at q; exact q.elim
            | exc c e => rw [hfv] at q; exact q.elim
            | ok x e4 =>
              rw [hfv] at q
              intro F4 H4 s4 j7 z fz
              have q : PostR X W G F1 σ (fun d F' H' => ∀ v, Fz X.K F' v d → Q v H') (((dputO o k x).elim .no fun o' => compD u t fk fv own (ds.drop (i + 1)) o' (wipeE e4 own)).bind fun o e2 => finD e1 e2 own o) := q
              cases hd : dputO o k x with
              | none => rw [hd] at q; exact q.elim
              | some o' =>
                rw [hd] at q
                have j8 := j7.j0.wipe own
                rw [wl] at j8
                have j9 := back F4 _ _ H4 (s2.trans (s3.trans s4)) rfl j8
                obtain ⟨H6, h1, h2⟩ := j9.dputLast (fy.mono s4) fz hd
                exact ⟨H6, h1, F4, wipeE e4 own, o', s'.trans (s''.trans (s2.trans (s3.trans s4))), h2, q⟩
  · have e : i = ds.length := by omega
    subst e
    rw [List.drop_length] at q
    refine .inl ⟨ws (Nat.le_refl _), ?_⟩
    have q : PostR X W G F1 σ (fun d F' H' => ∀ v, Fz X.K F' v d → Q v H') (o.fz.elim .no fun d => .ok d (restE own e1 env')) := q
    cases hz : o.fz with
    | none => rw [hz] at q; exact q.elim
    | some d =>
      rw [hz] at q
      obtain ⟨F2, s2, f2, j3⟩ := j'.freezeL (d := d) hz
      exact q F2 H' (s'.trans s2) ⟨j1.j0.unwipe j3 (s'.trans s2), j1.io⟩ _ f2
theorem d_dc (tt : Bool) {kx vx tg iter : Expr} {ifs : List Expr} {scope : Scope} {own : List (Str × Nat)} {it : LM} {u : UM} {t : TM} {fk fv : EM} {is : List Nat} (hun : X.A.units + 65 < cLine) (hc : X.calm = true) (hN : X.N.Nodup) (hi : DI X W tg iter it) (ok : BlkOk X.N X.env.scope scope own)
    (hg : ∀ (s : Shared) (H : Hp) (C : Addr) (cl : List (Str × Addr)) (fp : List Addr), DG (X.blk s H scope (compEnvC scope cl C X.env) fp) is tg u) (ht : ∀ (s : Shared) (H : Hp) (C : Addr) (cl : List (Str × Addr)) (fp : List Addr), DTs (X.blk s H scope (compEnvC scope cl C X.env) fp) WF ifs t)
    (hk : ∀ (s : Shared) (H : Hp) (C : Addr) (cl : List (Str × Addr)) (fp : List Addr), DE (X.blk s H scope (compEnvC scope cl C X.env) fp) WF kx fk) (he : ∀ (s : Shared) (H : Hp) (C : Addr) (cl : List (Str × Addr)) (fp : List Addr), DE (X.blk s H scope (compEnvC scope cl C X.env) fp) WF vx fv)
    (hown : ∀ i ∈ is, i ∈ own.map (·.2) := by decide) (hs : ∀ x, foldedSetIterable iter X.env x = pure x := by intro _; rfl) :
    DE X W (.DictComp kx vx [⟨tg, iter, ifs, 0⟩] scope pos) (eDC tt it u t fk fv (own.map (·.2))) := by
  have he0 : ∀ (H : Hp) (h : Heap), sysModules < h.objs.size → ObjOk X.prog X.w H (h.push { cls := .type "dict", data := .dict #[] }) h.objs.size (newH tt) := fun H h hb => by
    cases tt with
    | true => exact dt_empty h hb
    | false => exact dk_empty h hb
  exact ⟨fun pins s σ H Q I h => (pe_dg (e0 := newH tt) (g := canG X.K u) (tt := canT X WF t) (tk := canE X WF fk) (tv := canE X WF fv) he0 (by omega) hc hN hi ok (fun s H C cl fp => (hg s H C cl fp).run) (fun s H C cl fp => (ht s H C cl fp).run) (fun s H C cl fp => hk s H C cl fp) (fun s H C cl fp => he s H C cl fp) hs).run pins s σ H Q I
    (canDC (fun d as h' i hi' => hown i (by rw [← (hg s H 0 [] []).st d as h']; exact hi')) σ H Q h)⟩
end
end Ly

set_option Elab.async false
set_option linter.all false
set_option maxRecDepth 100000
set_option maxHeartbeats 4000000
set_option autoImplicit false
namespace Ly
open PySem PySem.Spec L2
/-! ## len(set(x)), x a list of tuples of numbers -/
/-- each thing once -/
def dst {α : Type} [DecidableEq α] : List α → List α
  | [] => []
  | x :: l => if x ∈ l then dst l else x :: dst l
section
variable {α : Type} [DecidableEq α]
theorem dst_mem {x : α} : ∀ {l : List α}, x ∈ dst l ↔ x ∈ l
  | [] => Iff.rfl
  | y :: l => by
    unfold dst
    by_cases h : y ∈ l
    · rw [if_pos h, dst_mem]
      exact ⟨fun q => List.mem_cons_of_mem _ q, fun q => (List.mem_cons.mp q).elim (fun z => by rw [z]; exact h) id⟩
    · rw [if_neg h, List.mem_cons, List.mem_cons, dst_mem]
theorem dst_nd : ∀ l : List α, (dst l).Nodup
  | [] => List.nodup_nil
  | y :: l => by
    unfold dst
    by_cases h : y ∈ l
    · rw [if_pos h]
      exact dst_nd l
    · rw [if_neg h]
      exact List.nodup_cons.mpr ⟨fun q => h (dst_mem.mp q), dst_nd l⟩
theorem dst_id : ∀ {l : List α}, l.Nodup → dst l = l
  | [], _ => rfl
  | y :: l, h => by
    obtain ⟨h1, h2⟩ := List.nodup_cons.mp h
    unfold dst
    rw [if_neg h1, dst_id h2]
theorem nd_le : ∀ (l m : List α), l.Nodup → (∀ x ∈ l, x ∈ m) → l.length ≤ m.length
  | [], m, _, _ => Nat.zero_le _
  | x :: l, m, hn, hs => by
    obtain ⟨h1, h2⟩ := List.nodup_cons.mp hn
    have hx := hs x List.mem_cons_self
    have hl : (m.erase x).length = m.length - 1 := List.length_erase_of_mem hx
    have hp := List.length_pos_of_mem hx
    have ih := nd_le l (m.erase x) h2 fun y hy => (List.mem_erase_of_ne fun z => h1 (by rw [← z]; exact hy)).mpr (hs y (List.mem_cons_of_mem _ hy))
    rw [List.length_cons]
    omega
theorem dst_len {l m : List α} (hn : l.Nodup) (h : ∀ x, x ∈ l ↔ x ∈ m) : l.length = (dst m).length :=
  Nat.le_antisymm (nd_le _ _ hn fun x hx => dst_mem.mpr ((h x).mp hx)) (nd_le _ _ (dst_nd m) fun x hx => (h x).mpr (dst_mem.mp hx))
end
section
variable {X : Cx}
def tLenSetT (K : PySem.W.Frag) (ta : TE) : TE := fun σ H Q => ta σ H fun x H1 => ∃ (l : Addr) (ks : List (Addr × List Int)), x = V.ref l ∧ SqL K H1 l (ks.map fun p => V.ref p.1) ∧ (∀ p ∈ ks, SqT K H1 p.1 (p.2.map V.int)) ∧ ks.length < 64 ∧ Q (.int ((dst (ks.map (·.2))).length : Nat)) H1
theorem pe_lenSetT {a : Expr} {ta : TE} {p p2 q pos : Pos} (hu : X.A.units + 65 < cLine) (hc : X.calm = true) (hg : Gl X "len") (hm : X.mg "len" = none) (hg2 : Gl X "set") (hm2 : X.mg "set" = none) (ha : PE X a ta)
    (na : starEach [a] X.env = (false, eval a X.env) :: starEach [] X.env := by rfl) : PE X (.Call (.Name "len" p) [.Call (.Name "set" p2) [a] [] q] [] pos) (tLenSetT X.K ta) := by
  refine ⟨fun pins s σ H Q I h => ?_⟩
  refine PyProof.Rows.Call_ (ld_blt I hg hm PySem.boot_len ?_)
  refine PyProof.Rows.callWith_builtin1 (PyProof.Rows.args_cons ?_ rfl) rfl rfl
  refine PyProof.Rows.Call_ (ld_blt I hg2 hm2 PyProof.Rows.boot_set ?_)
  refine PyProof.Rows.callWith_type1 (PyProof.Rows.args_cons (thn (ha.run pins s σ H _ I h) fun v s1 ⟨x, H1, I1, r1, q1⟩ => PyProof.Rows.args_nil ?_) na) na rfl
  obtain ⟨l, ks, rfl, hq, hk, hf, q1⟩ := q1
  cases r1
  obtain ⟨its, r, pl, hz⟩ := I1.list hq
  refine call_set_tups (P := X.prog) (w := X.w) ks (I1.ok.hd hc) pl.isList (by simpa using refs_of_vals r) (fun p hp => I1.isT (hk p hp)) hf (by omega) fun h' tk L es ep t R g hkp => ?_
  refine PyProof.Rows.args_nil ?_
  have hsz : es.size = L.length := SetTR.size (s := { s1 with heap := h', toks := tk }) R
  have hfit : t.fits es.size = true := SetTR.fits (s := { s1 with heap := h', toks := tk }) R
  obtain ⟨o, ho, hex, hd⟩ := R.ob
  have I2 : Inv X pins σ H1 { s1 with heap := h', toks := tk } := I1.kept hkp
  have hfew := R.few
  have hlen : L.length = (dst (ks.map (·.2))).length := by
    have := dst_len (l := L.map (·.2)) (m := ks.map (·.2)) R.nd fun y => ⟨fun hy => by
      obtain ⟨p, hp, rfl⟩ := List.mem_map.mp hy
      exact List.mem_map.mpr ⟨p, List.mem_of_mem_take (g.sub p hp), rfl⟩, fun hy => by
      obtain ⟨p, hp, rfl⟩ := List.mem_map.mp hy
      exact g.all p (by rw [List.take_length]; exact hp)⟩
    rwa [List.length_map] at this
  refine call_len_set ho hex hd hfit (by rw [hsz] <;> omega) ⟨.int (dst (ks.map (·.2))).length, H1, I2.tok _, ⟨_, by rw [hsz, hlen]⟩, q1⟩
end
def tupsD : List PyData → Option (List (List Int))
  | [] => some []
  | .tuple xs :: ds => (intsD xs).bind fun k => (tupsD ds).map fun r => k :: r
  | _ :: _ => none
def gLenSet : PyData → Option PyData
  | .list ds => (tupsD ds).bind fun ks => if ks.length < 64 then some (.int ((dst ks).length : Nat)) else none
  | _ => none
def eLenSet (f : EM) : EM := fun e => (f e).bind fun d e1 => lift (gLenSet d) e1
theorem fz_tups {K : PySem.W.Frag} {F : Hp} : ∀ {ds : List PyData} {vs : List V} {kss : List (List Int)}, FzL K F vs ds → tupsD ds = some kss → ∃ ks : List (Addr × List Int), vs = ks.map (fun p => V.ref p.1) ∧ ks.map (·.2) = kss ∧ ∀ p ∈ ks, SqT K F p.1 (p.2.map V.int)
  | [], _, kss, .nil, h => by
    cases h
    exact ⟨[], rfl, rfl, fun p hp => by cases hp⟩
  | d :: ds, _, kss, .cons f t, h => by
    cases d with
    | tuple xs =>
      have h : (intsD xs).bind (fun k => (tupsD ds).map fun r => k :: r) = some kss := h
      cases hx : intsD xs with
      | none => rw [hx] at h; cases h
      | some k =>
        rw [hx] at h
        have h : (tupsD ds).map (fun r => k :: r) = some kss := h
        cases hd : tupsD ds with
        | none => rw [hd] at h; cases h
        | some r =>
          rw [hd] at h
          cases h
          obtain ⟨ks, e1, e2, e3⟩ := fz_tups t hd
          have e := intsD_eq hx
          subst e
          cases f with
          | @tup a ws _ h1 t1 =>
            have ev := fzI t1
            subst ev
            refine ⟨(a, k) :: ks, by rw [List.map_cons, ← e1], by rw [List.map_cons, e2], fun p hp => ?_⟩
            rcases List.mem_cons.mp hp with rfl | hp
            · exact .inl (.inl h1)
            · exact e3 p hp
    | _ => cases h
section
variable {X : Cx} {W : WX} {f : EM}
theorem canLenSet {σ : St} {H : Hp} {Q : VK} (h : canE X W (eLenSet f) σ H Q) : tLenSetT X.K (canE X W f) σ H Q := by
  obtain ⟨G, F, env, j, p⟩ := h
  refine ⟨G, F, env, j, p.bind.imp fun d F1 H1 s1 ⟨e1, j1, p2⟩ v fv => ?_⟩
  cases d with
  | list ds =>
    have p2 : PostR X W G F1 σ (fun d F' H' => ∀ v, Fz X.K F' v d → Q v H') (lift ((tupsD ds).bind fun ks => if ks.length < 64 then some (.int ((dst ks).length : Nat)) else none) e1) := p2
    cases ht : tupsD ds with
    | none => rw [ht] at p2; exact p2.elim
    | some kss =>
      rw [ht] at p2
      have p2 : PostR X W G F1 σ (fun d F' H' => ∀ v, Fz X.K F' v d → Q v H') (lift (if kss.length < 64 then some (.int ((dst kss).length : Nat)) else none) e1) := p2
      by_cases hl : kss.length < 64
      · rw [if_pos hl] at p2
        cases fv with
        | @lst l vs _ h1 t1 =>
          obtain ⟨ks, e2, e3, e4⟩ := fz_tups t1 ht
          subst e2 e3
          have hlt : ks.length < 64 := by rwa [List.length_map] at hl
          refine ⟨l, ks, rfl, j1.sub.seq h1, fun p hp => sameT j1.sub (e4 p hp), hlt, p2 F1 H1 (Same.refl F1) j1 _ (.int _)⟩
      · rw [if_neg hl] at p2
        exact p2.elim
  | _ => exact p2.elim
theorem d_lenSet {a : Expr} {p p2 q pos : Pos} (hu : X.A.units + 65 < cLine) (hm : X.mg "len" = none) (hm2 : X.mg "set" = none) (ha : DE X W a f) (hc : X.calm = true := by rfl) (hg : Gl X "len" := by rfl) (hg2 : Gl X "set" := by rfl)
    (na : starEach [a] X.env = (false, eval a X.env) :: starEach [] X.env := by rfl) : DE X W (.Call (.Name "len" p) [.Call (.Name "set" p2) [a] [] q] [] pos) (eLenSet f) :=
  weakE (pe_lenSetT hu hc hg hm hg2 hm2 ha na) fun σ H Q h => canLenSet h
end
end Ly

set_option Elab.async false
set_option linter.all false
set_option maxRecDepth 100000
set_option maxHeartbeats 4000000
namespace Lw
open PySem PySem.Spec L2 Ly

def subX (c h : Str) : Option Bool := ([((("BadPuzzle" : Str), ("BadPuzzle" : Str)), true), ((("BadPuzzle" : Str), ("BadRule" : Str)), false), ((("BadRule" : Str), ("BadPuzzle" : Str)), false), ((("BadRule" : Str), ("BadRule" : Str)), true)] : List ((Str × Str) × Bool)).lookup (c, h)
def fn_is_number : FM := bodyFn 3
    (sRt (eAnd (eIsi .int (eV 0)) (eAnd (eNot (eIsi .bool (eV 0))) (eCh gLe gLe (eV 1) (eV 0) (eV 2)))))
def fn_is_sheet : FM := bodyFn 4
    (sSeq (sIf (tOr2 (tNot2 (tTru (eIsi .list (eV 0)))) (tNot2 (tB2 (eCh gLe gLe (eC (.int 1)) (eL gLen (lCons (eV 0) lNil)) (eC (.int 60)))))) (sRt (eC (.bool false))) sNx)
    (sSeq (sIf (tTru (eComp (itm (eV 0)) (uN 2) (tNot2 (tTru (eIsi .str (eV 2)))) (eV 2) [2])) (sRt (eC (.bool false))) sNx)
    (sSeq (sIf (tOr2 (tNot2 (tB2 (eCh gLe gLe (eC (.int 1)) (eL gLen (lCons (e2 gIx (eV 0) (eC (.int 0))) lNil)) (eC (.int 60))))) (tTru (eComp (itm (eV 0)) (uN 2) (t2 gNe (eL gLen (lCons (eV 2) lNil)) (eL gLen (lCons (e2 gIx (eV 0) (eC (.int 0))) lNil))) (eV 2) [2]))) (sRt (eC (.bool false))) sNx)
    (sRt (e2 gEq (eComp (itm (eV 0)) (uN 2) (tTru (eComp (itm (eV 2)) (uN 3) (t2 gNin (eV 3) (eV 1)) (eV 3) [3])) (eV 2) [2]) (eList lNil))))))
def fn_check_solution : FM := bodyFn 1
    (sIf (tNot2 (tTru (eCall 2 [] fn_is_sheet (aCons (eV 0) (aCons (e2 gAdd (eC (.str ("ABCDEFGHIJKLMNOPQRSTUVWXYZ" : Str))) (eC (.str ("#" : Str)))) aNil))))) (sRaise ("BadPuzzle" : Str)) sNx)
def lp_check_entry_0 : SM := (sIf (tTru (eComp (iL rng1 (lCons (eL gLen (lCons (e2 gIx (eV 1) (eV 2)) lNil)) lNil)) (uN 3) (t2 gNe (e2 gEq (e2 gIx (e2 gIx (eV 1) (eV 2)) (eV 3)) (eC (.str ("#" : Str)))) (e2 gEq (e2 gIx (e2 gIx (eV 0) (eV 2)) (eV 3)) (eC (.str ("#" : Str))))) (eV 3) [3])) (sRaise ("BadPuzzle" : Str)) sNx)
def fn_check_entry : FM := bodyFn 4
    (sSeq (sIf (tOr2 (tNot2 (tTru (eCall 2 [] fn_is_sheet (aCons (eV 1) (aCons (e2 gAdd (eC (.str ("ABCDEFGHIJKLMNOPQRSTUVWXYZ" : Str))) (eC (.str ("#." : Str)))) aNil))))) (tOr2 (t2 gNe (eL gLen (lCons (eV 1) lNil)) (eL gLen (lCons (eV 0) lNil))) (t2 gNe (eL gLen (lCons (e2 gIx (eV 1) (eC (.int 0))) lNil)) (eL gLen (lCons (e2 gIx (eV 0) (eC (.int 0))) lNil))))) (sRaise ("BadPuzzle" : Str)) sNx)
    (sFor (iL rng1 (lCons (eL gLen (lCons (eV 1) lNil)) lNil)) (uN 2)
    lp_check_entry_0))
def fn_is_cell : FM := bodyFn 2
    (sSeq (sIf (tOr2 (tNot2 (tTru (eIsi .tuple (eV 0)))) (tOr2 (t2 gNe (eL gLen (lCons (eV 0) lNil)) (eC (.int 2))) (tNot2 (tTru (eCall 3 [] fn_is_number (aCons (e2 gIx (eV 0) (eC (.int 0))) (aCons (eC (.int 0)) (aCons (e2 gSub (eL gLen (lCons (eV 1) lNil)) (eC (.int 1))) aNil)))))))) (sRt (eC (.bool false))) sNx)
    (sRt (eAnd (eCall 3 [] fn_is_number (aCons (e2 gIx (eV 0) (eC (.int 1))) (aCons (eC (.int 0)) (aCons (e2 gSub (eL gLen (lCons (e2 gIx (eV 1) (eC (.int 0))) lNil)) (eC (.int 1))) aNil)))) (e2 gNe (e2 gIx (e2 gIx (eV 1) (e2 gIx (eV 0) (eC (.int 0)))) (e2 gIx (eV 0) (eC (.int 1)))) (eC (.str ("#" : Str)))))))
def lp_check_lights_0 : SM := (sSeq (sIf (tOr2 (tNot2 (tTru (eIsi .list (eV 2)))) (tOr2 (t2 gLt (eL gLen (lCons (eV 2) lNil)) (eC (.int 2))) (tTru (eComp (itm (eV 2)) (uN 3) (tNot2 (tTru (eCall 2 [] fn_is_cell (aCons (eV 3) (aCons (eV 0) aNil))))) (eV 3) [3])))) (sRaise ("BadRule" : Str)) sNx)
    (sIf (t2 gNe (eLenSet (eV 2)) (eL gLen (lCons (eV 2) lNil))) (sRaise ("BadRule" : Str)) sNx))
def fn_check_lights : FM := bodyFn 4
    (sSeq (sIf (tOr2 (tNot2 (tTru (eIsi .list (eV 1)))) (t2 gGt (eL gLen (lCons (eV 1) lNil)) (eC (.int 200)))) (sRaise ("BadRule" : Str)) sNx)
    (sFor (itm (eV 1)) (uN 2)
    lp_check_lights_0))
def lp_marks_of_0 : SM := (sIf (t2 gEq (e2 gIx (e2 gIx (eV 1) (eV 5)) (eV 8)) (eC (.str ("." : Str)))) (sApp 4 (lCons (eTup (lCons (eV 5) (lCons (eV 8) lNil))) lNil)) (sIf (t2 gNe (e2 gIx (e2 gIx (eV 1) (eV 5)) (eV 8)) (e2 gIx (e2 gIx (eV 0) (eV 5)) (eV 8))) (sApp 3 (lCons (eTup (lCons (eV 5) (lCons (eV 8) lNil))) lNil)) sNx))
def lp_marks_of_1 : SM := (sFor (iL rng1 (lCons (eL gLen (lCons (e2 gIx (eV 1) (eV 5)) lNil)) lNil)) (uN 8)
    lp_marks_of_0)
def fn_marks_of : FM := bodyFn 11
    (sSeq (sStL 3 lNil)
    (sSeq (sStL 4 lNil)
    (sSeq (sFor (iL rng1 (lCons (eL gLen (lCons (eV 1) lNil)) lNil)) (uN 5)
    lp_marks_of_1)
    (sSeq (sSt 6 (eDC true (itm (e2 gAdd (eVF 3) (eVF 4))) (uN 9) tT (eV 9) (eC (.bool true)) [9]))
    (sSeq (sSt 7 (eComp (iL rng1 (lCons (eL gLen (lCons (eV 2) lNil)) lNil)) (uN 10) (t2 gEq (eComp (itm (e2 gIx (eV 2) (eV 10))) (uN 9) (tB2 (e2 gDin (eV 9) (eV 6))) (eV 9) [9]) (eList lNil)) (eV 10) [10]))
    (sRt (eTup (lCons (eVF 3) (lCons (eVF 4) (lCons (eV 7) lNil))))))))))
def fn_marked : FM := bodyFn 3
    (sSeq (sEx (eCall 1 [] fn_check_solution (aCons (eV 0) aNil)))
    (sSeq (sEx (eCall 2 [] fn_check_entry (aCons (eV 0) (aCons (eV 1) aNil))))
    (sSeq (sEx (eCall 2 [] fn_check_lights (aCons (eV 0) (aCons (eV 2) aNil))))
    (sRt (eCall 3 [] fn_marks_of (aCons (eV 0) (aCons (eV 1) (aCons (eV 2) aNil))))))))
def lp_order_of_entries_0 : SM := (sEx (eCall 2 [] fn_check_entry (aCons (eV 0) (aCons (eV 3) aNil))))
def lp_order_of_entries_1 : SM := (sSeq (sUp (uT 3 (usC (uN 6) (usC (uN 7) (usC (uN 8) usN)))) (eCall 3 [] fn_marks_of (aCons (eV 0) (aCons (e2 gIx (eV 1) (eV 5)) (aCons (eV 2) aNil)))))
    (sApp 4 (lCons (eTup (lCons (e1 gNeg (eL gLen (lCons (eV 8) lNil))) (lCons (eL gLen (lCons (eV 6) lNil)) (lCons (eL gLen (lCons (eV 7) lNil)) (lCons (eV 5) lNil))))) lNil)))
def fn_order_of_entries : FM := bodyFn 10
    (sSeq (sEx (eCall 1 [] fn_check_solution (aCons (eV 0) aNil)))
    (sSeq (sIf (tOr2 (tNot2 (tTru (eIsi .list (eV 1)))) (tNot2 (tB2 (eCh gLe gLe (eC (.int 1)) (eL gLen (lCons (eV 1) lNil)) (eC (.int 200)))))) (sRaise ("BadPuzzle" : Str)) sNx)
    (sSeq (sFor (itm (eV 1)) (uN 3)
    lp_order_of_entries_0)
    (sSeq (sEx (eCall 2 [] fn_check_lights (aCons (eV 0) (aCons (eV 2) aNil))))
    (sSeq (sStL 4 lNil)
    (sSeq (sFor (iL rng1 (lCons (eL gLen (lCons (eV 1) lNil)) lNil)) (uN 5)
    lp_order_of_entries_1)
    (sRt (eComp (itm (eL gSortX (lCons (eVF 4) lNil))) (uN 9) tT (e2 gIx (eV 9) (eC (.int 3))) [9]))))))))
def fn_law_mixed : FM := bodyFn 3
    (sSeq (sSt 2 (e2 gMod (e2 gAdd (e2 gAdd (e2 gMul (eV 0) (eC (.int 48271))) (e2 gMul (eV 1) (eC (.int 69621)))) (eC (.int 12345))) (eC (.int 2147483647))))
    (sRt (e2 gMod (e2 gAdd (e2 gMul (eV 2) (e2 gAdd (e2 gDiv (eV 2) (eC (.int 65536))) (eC (.int 3)))) (eV 1)) (eC (.int 2147483647)))))
def lp_law_numbers_0 : SM := (sIf (t2 gGt (eV 3) (eC (.int 0))) (sSeq (sApp 1 (lCons (e2 gMod (eV 3) (eC (.int 1000000))) lNil))
    (sSt 3 (e2 gDiv (eV 3) (eC (.int 1000000))))) sNx)
def lp_law_numbers_1 : SM := (sApp 1 (lCons (e2 gMod (eCall 2 [] fn_law_mixed (aCons (eCall 2 [] fn_law_mixed (aCons (e2 gMod (eV 2) (eC (.int 2147483647))) (aCons (eV 4) aNil))) (aCons (e2 gAdd (eV 4) (eC (.int 7))) aNil))) (eC (.int 1000000))) lNil))
def lp_law_numbers_2 : SM := (sIf (t2 gGe (eV 2) (e2 gPow (eC (.int 10)) (eC (.int 18)))) (sSeq (sSt 3 (eV 2))
    (sFor (iL rng1 (lCons (eC (.int 60)) lNil)) (uN 4)
    lp_law_numbers_0)) (sSeq (sApp 1 (lCons (e2 gMod (eV 2) (eC (.int 1000000))) lNil))
    (sFor (iL rng1 (lCons (eC (.int 5)) lNil)) (uN 4)
    lp_law_numbers_1)))
def fn_law_numbers : FM := bodyFn 5
    (sSeq (sStL 1 lNil)
    (sSeq (sFor (itm (eV 0)) (uN 2)
    lp_law_numbers_2)
    (sRt (eVF 1))))
def fn_law_draw : FM := bodyFn 4
    (sSeq (sSt 2 (eIxO 0 (eC (.int 1))))
    (sSeq (sSix 0 (eC (.int 1)) (e2 gAdd (eV 2) (eC (.int 1))))
    (sSeq (sIf (t2 gLt (eV 2) (eL gLen (lCons (eIxO 0 (eC (.int 0))) lNil))) (sRt (e2 gMod (e2 gIx (eIxO 0 (eC (.int 0))) (eV 2)) (eV 1))) sNx)
    (sSeq (sSt 3 (e2 gAdd (eC (.int 1)) (eV 2)))
    (sSeq (sIf (t2 gGt (eL gLen (lCons (eIxO 0 (eC (.int 0))) lNil)) (eC (.int 0))) (sSt 3 (e2 gAdd (eV 3) (e2 gMul (eC (.int 1009)) (e2 gIx (eIxO 0 (eC (.int 0))) (eC (.int 0)))))) sNx)
    (sRt (e2 gMod (e2 gDiv (eCall 2 [] fn_law_mixed (aCons (eCall 2 [] fn_law_mixed (aCons (eV 3) (aCons (eV 2) aNil))) (aCons (eC (.int 5)) aNil))) (eC (.int 7))) (eV 1))))))))
def lp_law_all_equal_0 (r_law_equal : FM) : SM := (sIf (tNot2 (tTru (eCall 2 [] r_law_equal (aCons (e2 gIx (eV 0) (eV 2)) (aCons (e2 gIx (eV 1) (eV 2)) aNil))))) (sRt (eC (.bool false))) sNx)
mutual
def fn_law_equal : Nat → FM
  | 0 => fun _ => .no
  | n + 1 => bodyFn 2
    (sSeq (sIf (tTru (eIsi .list (eV 1))) (sRt (eAnd (eIsi .list (eV 0)) (eAnd (e2 gEq (eL gLen (lCons (eV 0) lNil)) (eL gLen (lCons (eV 1) lNil))) (eCall 2 [] (fn_law_all_equal n) (aCons (eV 0) (aCons (eV 1) aNil)))))) sNx)
    (sSeq (sIf (tTru (eIsi .tuple (eV 1))) (sRt (eAnd (eIsi .tuple (eV 0)) (eAnd (e2 gEq (eL gLen (lCons (eV 0) lNil)) (eL gLen (lCons (eV 1) lNil))) (eCall 2 [] (fn_law_all_equal n) (aCons (eV 0) (aCons (eV 1) aNil)))))) sNx)
    (sSeq (sIf (tTru (eIsi .bool (eV 1))) (sRt (eAnd (eIsi .bool (eV 0)) (e2 gEq (eV 0) (eV 1)))) sNx)
    (sSeq (sIf (tTru (eIsi .int (eV 1))) (sRt (eAnd (eIsi .int (eV 0)) (eAnd (eNot (eIsi .bool (eV 0))) (e2 gEq (eV 0) (eV 1))))) sNx)
    (sSeq (sIf (tTru (eIsi .str (eV 1))) (sRt (eAnd (eIsi .str (eV 0)) (e2 gEq (eV 0) (eV 1)))) sNx)
    (sRt (e2 gIs (eV 0) (eC .none))))))))
def fn_law_all_equal : Nat → FM
  | 0 => fun _ => .no
  | n + 1 => bodyFn 3
    (sSeq (sFor (iL rng1 (lCons (eL gLen (lCons (eV 1) lNil)) lNil)) (uN 2)
    (lp_law_all_equal_0 (fn_law_equal n)))
    (sRt (eC (.bool true))))
end
def fn_law_sheet : FM := bodyFn 5
    (sRt (eComp (iL rng1 (lCons (eV 1) lNil)) (uN 3) tT (eM1 gJoin (eC (.str ("" : Str))) (eComp (iL rng1 (lCons (eV 2) lNil)) (uN 4) tT (e2 gIx (eC (.str ("ABC#" : Str))) (eCall 2 [0] fn_law_draw (aIo 0 (aCons (eC (.int 4)) aNil)))) [4])) [3]))
def lp_law_entry_0 : SM := (sSeq (sSt 6 (eCall 2 [0] fn_law_draw (aIo 0 (aCons (eC (.int 6)) aNil))))
    (sSt 4 (e2 gAdd (eV 4) (eIf (tOr2 (t2 gEq (eV 5) (eC (.str ("#" : Str)))) (t2 gGt (eV 6) (eC (.int 1)))) (eV 5) (e2 gIx (eList (lCons (eC (.str ("D" : Str))) (lCons (eC (.str ("." : Str))) lNil))) (eV 6))))))
def lp_law_entry_1 : SM := (sSeq (sSt 4 (eC (.str ("" : Str))))
    (sSeq (sFor (itm (eV 3)) (uN 5)
    lp_law_entry_0)
    (sApp 2 (lCons (eV 4) lNil))))
def fn_law_entry : FM := bodyFn 7
    (sSeq (sStL 2 lNil)
    (sSeq (sFor (itm (eV 1)) (uN 3)
    lp_law_entry_1)
    (sRt (eVF 2))))
def lp_law_marked_0 : SM := (sSt 3 (e2 gAdd (eV 3) (eComp (iL rng1 (lCons (eL gLen (lCons (e2 gIx (eV 0) (eC (.int 0))) lNil)) lNil)) (uN 10) tT (eTup (lCons (eV 4) (lCons (eV 10) lNil))) [10])))
def fn_law_marked : FM := bodyFn 11
    (sSeq (sSt 3 (eList lNil))
    (sSeq (sFor (iL rng1 (lCons (eL gLen (lCons (eV 0) lNil)) lNil)) (uN 4)
    lp_law_marked_0)
    (sSeq (sSt 5 (eComp (itm (eV 3)) (uN 8) (t2 gNin (e2 gIx (e2 gIx (eV 1) (e2 gIx (eV 8) (eC (.int 0)))) (e2 gIx (eV 8) (eC (.int 1)))) (eTup (lCons (eC (.str ("." : Str))) (lCons (e2 gIx (e2 gIx (eV 0) (e2 gIx (eV 8) (eC (.int 0)))) (e2 gIx (eV 8) (eC (.int 1)))) lNil)))) (eV 8) [8]))
    (sSeq (sSt 6 (eComp (itm (eV 3)) (uN 8) (t2 gEq (e2 gIx (e2 gIx (eV 1) (e2 gIx (eV 8) (eC (.int 0)))) (e2 gIx (eV 8) (eC (.int 1)))) (eC (.str ("." : Str)))) (eV 8) [8]))
    (sSeq (sSt 7 (eComp (iL rng1 (lCons (eL gLen (lCons (eV 2) lNil)) lNil)) (uN 9) (t2 gEq (eL gLen (lCons (eComp (itm (e2 gIx (eV 2) (eV 9))) (uN 8) (tOr2 (t2 gIn (eV 8) (eV 5)) (t2 gIn (eV 8) (eV 6))) (eV 8) [8]) lNil)) (eC (.int 0))) (eV 9) [9]))
    (sRt (eTup (lCons (eV 5) (lCons (eV 6) (lCons (eV 7) lNil))))))))))
def fn_law_refused : FM := bodyFn 4
    (sSeq (sTry subX (sIf (t2 gEq (eV 0) (eC (.str ("marked" : Str)))) (sEx (eCall 3 [] fn_marked (aCons (eV 1) (aCons (eV 2) (aCons (eV 3) aNil))))) (sEx (eCall 3 [] fn_order_of_entries (aCons (eV 1) (aCons (eList (lCons (eV 2) lNil)) (aCons (eV 3) aNil))))))
    [(("BadPuzzle" : Str), (sRt (eC (.str ("puzzle" : Str))))), (("BadRule" : Str), (sRt (eC (.str ("rule" : Str)))))])
    (sRt (eC (.str ("taken" : Str)))))
def lp_law_0 : SM := (sSt 3 (e2 gAdd (eV 3) (eComp (iL rng1 (lCons (eV 11) lNil)) (uN 15) (t2 gNe (e2 gIx (e2 gIx (eV 2) (eV 4)) (eV 15)) (eC (.str ("#" : Str)))) (eTup (lCons (eV 4) (lCons (eV 15) lNil))) [15])))
def lp_law_1 : SM := (sIf (t2 gGt (eL gLen (lCons (eV 3) lNil)) (eC (.int 1))) (sSeq (sSt 14 (eCall 2 [0] fn_law_draw (aIo 1 (aCons (e2 gSub (eL gLen (lCons (eV 3) lNil)) (eC (.int 1))) aNil))))
    (sApp 5 (lCons (eS gSl (eV 3) (oS (eV 14)) (oS (e2 gAdd (e2 gAdd (eV 14) (eC (.int 2))) (eCall 2 [0] fn_law_draw (aIo 1 (aCons (eC (.int 3)) aNil)))))) lNil))) sNx)
def lp_law_2 : SM := (sSeq (sSt 12 (eCall 3 [] fn_law_marked (aCons (eV 2) (aCons (e2 gIx (eV 7) (eV 6)) (aCons (eVF 5) aNil)))))
    (sSeq (sIf (tNot2 (tTru (eCall 2 [] (fn_law_equal 8) (aCons (eCall 3 [] fn_marked (aCons (eV 2) (aCons (e2 gIx (eV 7) (eV 6)) (aCons (eVF 5) aNil)))) (aCons (eV 12) aNil))))) (sRt (eC (.bool false))) sNx)
    (sApp 8 (lCons (eTup (lCons (e1 gNeg (eL gLen (lCons (e2 gIx (eV 12) (eC (.int 2))) lNil))) (lCons (eL gLen (lCons (e2 gIx (eV 12) (eC (.int 0))) lNil)) (lCons (eL gLen (lCons (e2 gIx (eV 12) (eC (.int 1))) lNil)) (lCons (eV 6) lNil))))) lNil))))
def lp_law_3 : SM := (sIf (t2 gNe (eCall 4 [] fn_law_refused (aCons (eV 9) (aCons (eV 13) (aCons (eList (lCons (eC (.str ("A" : Str))) lNil)) (aCons (eList lNil) aNil))))) (eC (.str ("puzzle" : Str)))) (sRt (eC (.bool false))) sNx)
def lp_law_4 : SM := (sIf (t2 gNe (eCall 4 [] fn_law_refused (aCons (eV 9) (aCons (eList (lCons (eC (.str ("A" : Str))) lNil)) (aCons (eV 13) (aCons (eList lNil) aNil))))) (eC (.str ("puzzle" : Str)))) (sRt (eC (.bool false))) sNx)
def lp_law_5 : SM := (sIf (t2 gNe (eCall 4 [] fn_law_refused (aCons (eV 9) (aCons (eList (lCons (eC (.str ("AB#" : Str))) lNil)) (aCons (eList (lCons (eC (.str ("AB#" : Str))) lNil)) (aCons (eV 13) aNil))))) (eC (.str ("rule" : Str)))) (sRt (eC (.bool false))) sNx)
def lp_law_6 : SM := (sSeq (sFor (itm (eList (lCons (eList lNil) (lCons (eList (lCons (eC (.str ("a" : Str))) lNil)) (lCons (eList (lCons (eC (.str ("." : Str))) lNil)) (lCons (eList (lCons (eC (.str ("A" : Str))) (lCons (eC (.str ("AB" : Str))) lNil))) (lCons (eC .none) (lCons (eList (lCons (eC (.str ("" : Str))) lNil)) (lCons (eRep (lCons (eC (.str ("A" : Str))) lNil) (eC (.int 61))) (lCons (eList (lCons (e2 gRepS (eC (.str ("A" : Str))) (eC (.int 61))) lNil)) (lCons (eC (.str ("A" : Str))) (lCons (eList (lCons (eC (.int 1)) lNil)) lNil)))))))))))) (uN 13)
    lp_law_3)
    (sSeq (sFor (itm (eList (lCons (eList (lCons (eC (.str ("AB" : Str))) lNil)) (lCons (eList (lCons (eC (.str ("A" : Str))) (lCons (eC (.str ("A" : Str))) lNil))) (lCons (eList (lCons (eC (.str ("#" : Str))) lNil)) (lCons (eList (lCons (eC (.str ("a" : Str))) lNil)) (lCons (eC .none) (lCons (eList lNil) (lCons (eC (.str ("A" : Str))) lNil))))))))) (uN 13)
    lp_law_4)
    (sFor (itm (eList (lCons (eC .none) (lCons (eList (lCons (eList (lCons (eTup (lCons (eC (.int 0)) (lCons (eC (.int 0)) lNil))) lNil)) lNil)) (lCons (eList (lCons (eList (lCons (eTup (lCons (eC (.int 0)) (lCons (eC (.int 0)) lNil))) (lCons (eTup (lCons (eC (.int 0)) (lCons (eC (.int 0)) lNil))) lNil))) lNil)) (lCons (eList (lCons (eList (lCons (eTup (lCons (eC (.int 0)) (lCons (eC (.int 0)) lNil))) (lCons (eTup (lCons (eC (.int 0)) (lCons (eC (.int 2)) lNil))) lNil))) lNil)) (lCons (eList (lCons (eList (lCons (eTup (lCons (eC (.int 0)) (lCons (eC (.int 0)) lNil))) (lCons (eTup (lCons (eC (.int 9)) (lCons (eC (.int 0)) lNil))) lNil))) lNil)) (lCons (eList (lCons (eList (lCons (eTup (lCons (eC (.int 0)) (lCons (eC (.int 0)) lNil))) (lCons (eList (lCons (eC (.int 0)) (lCons (eC (.int 1)) lNil))) lNil))) lNil)) (lCons (eList (lCons (eList lNil) lNil)) (lCons (eRep (lCons (eList (lCons (eTup (lCons (eC (.int 0)) (lCons (eC (.int 0)) lNil))) (lCons (eTup (lCons (eC (.int 0)) (lCons (eC (.int 1)) lNil))) lNil))) lNil) (eC (.int 201))) lNil)))))))))) (uN 13)
    lp_law_5)))
def fn_law : FM := bodyFn 17
    (sSeq (sStL 1 (lCons (eCall 1 [] fn_law_numbers (aCons (eV 0) aNil)) (lCons (eC (.int 0)) lNil)))
    (sSeq (sPar 10 11 (lCons (e2 gAdd (eC (.int 1)) (eCall 2 [0] fn_law_draw (aIo 1 (aCons (eC (.int 4)) aNil)))) (lCons (e2 gAdd (eC (.int 1)) (eCall 2 [0] fn_law_draw (aIo 1 (aCons (eC (.int 5)) aNil)))) lNil)))
    (sSeq (sSt 2 (eCall 3 [0] fn_law_sheet (aIo 1 (aCons (eV 10) (aCons (eV 11) aNil)))))
    (sSeq (sSt 3 (eList lNil))
    (sSeq (sFor (iL rng1 (lCons (eV 10) lNil)) (uN 4)
    lp_law_0)
    (sSeq (sStL 5 lNil)
    (sSeq (sFor (iL rng1 (lCons (eCall 2 [0] fn_law_draw (aIo 1 (aCons (eC (.int 4)) aNil))) lNil)) (uN 6)
    lp_law_1)
    (sSeq (sSt 7 (eComp (iL rng1 (lCons (e2 gAdd (eC (.int 1)) (eCall 2 [0] fn_law_draw (aIo 1 (aCons (eC (.int 5)) aNil)))) lNil)) (uN 6) tT (eCall 2 [0] fn_law_entry (aIo 1 (aCons (eV 2) aNil))) [6]))
    (sSeq (sStL 8 lNil)
    (sSeq (sFor (iL rng1 (lCons (eL gLen (lCons (eV 7) lNil)) lNil)) (uN 6)
    lp_law_2)
    (sSeq (sIf (tNot2 (tTru (eCall 2 [] (fn_law_equal 8) (aCons (eCall 3 [] fn_order_of_entries (aCons (eV 2) (aCons (eV 7) (aCons (eVF 5) aNil)))) (aCons (eComp (itm (eL gSortX (lCons (eVF 8) lNil))) (uN 16) tT (e2 gIx (eV 16) (eC (.int 3))) [16]) aNil))))) (sRt (eC (.bool false))) sNx)
    (sSeq (sFor (itm (eTup (lCons (eC (.str ("marked" : Str))) (lCons (eC (.str ("order" : Str))) lNil)))) (uN 9)
    lp_law_6)
    (sRt (e2 gEq (eCall 4 [] fn_law_refused (aCons (eC (.str ("marked" : Str))) (aCons (eList (lCons (eC (.str ("AB#" : Str))) lNil)) (aCons (eList (lCons (eC (.str ("..#" : Str))) lNil)) (aCons (eList (lCons (eList (lCons (eTup (lCons (eC (.int 0)) (lCons (eC (.int 1)) lNil))) (lCons (eTup (lCons (eC (.int 0)) (lCons (eC (.int 0)) lNil))) lNil))) lNil)) aNil))))) (eC (.str ("taken" : Str)))))))))))))))))
end Lw

set_option Elab.async false
set_option linter.all false
set_option maxRecDepth 100000
set_option maxHeartbeats 4000000
set_option autoImplicit false
namespace Lw
open PySem PySem.Spec L2 Ly
theorem mixed_i (n k : Int) : ∃ fin, fn_law_mixed [.fr (.int n), .fr (.int k)] = .ret (.int (mixd n k)) fin := by
  unfold fn_law_mixed mixd
  have hb := Int.emod_lt_of_pos (n * 48271 + k * 69621 + 12345) (show (0 : Int) < 2147483647 by decide)
  have hb2 := Int.emod_nonneg (n * 48271 + k * 69621 + 12345) (show (2147483647 : Int) ≠ 0 by decide)
  simp -implicitDefEqProofs [gMul_r n (show in64 48271 = true by decide), gMul_r k (show in64 69621 = true by decide), gMod_i _ (show (0 : Int) < 2147483647 by decide), gDiv_i _ (show (0 : Int) < 65536 ∧ (65536 : Int) < 1073741824 by decide),
    gMul_l _ (in64_i (i := (n * 48271 + k * 69621 + 12345) % 2147483647) (Int.lt_of_lt_of_le (by decide) hb2) (Int.lt_trans hb (by decide)))]
theorem mod6 (y : Int) : gMod (.int y) (.int 1000000) = some (.int (y % 1000000)) := gMod_i _ (by decide)
theorem div6 (y : Int) : gDiv (.int y) (.int 1000000) = some (.int (y / 1000000)) := gDiv_i _ (by decide)
def Inum (n : Nat) (e : Ev) : Prop := ∃ (xs : List Int) (a0 a2 a3 a4 : Option O), xs.length ≤ n ∧ (∀ x ∈ xs, 0 ≤ x ∧ x < 1000000) ∧ e = [a0, some (.nd .lst ((xs.map PyData.int).map .fr)), a2, a3, a4]
theorem app_num {xs : List Int} {z : Int} {f : EM} {a0 a2 a3 a4 : Option O} (hf : f [a0, some (.nd .lst ((xs.map PyData.int).map .fr)), a2, a3, a4] = .ok (.int z) [a0, some (.nd .lst ((xs.map PyData.int).map .fr)), a2, a3, a4]) (hs : xs.length < sz) :
    sApp 1 (lCons f lNil) [a0, some (.nd .lst ((xs.map PyData.int).map .fr)), a2, a3, a4] = .nx [a0, some (.nd .lst (((xs ++ [z]).map PyData.int).map .fr)), a2, a3, a4] := by
  have hm : (xs ++ [z]).map PyData.int = xs.map PyData.int ++ [.int z] := List.map_append
  rw [sApp_at (xs := xs.map PyData.int) (d := .int z) rfl (by show (f _).bind _ = _; rw [hf]; rfl) (by rw [List.length_map]; exact hs), hm]
  rfl
theorem bd6 (y : Int) : 0 ≤ y % 1000000 ∧ y % 1000000 < 1000000 := ⟨Int.emod_nonneg _ (by decide), Int.emod_lt_of_pos _ (by decide)⟩
theorem bd_app {xs : List Int} {z : Int} (h : ∀ x ∈ xs, 0 ≤ x ∧ x < 1000000) (hz : 0 ≤ z ∧ z < 1000000) : ∀ x ∈ xs ++ [z], 0 ≤ x ∧ x < 1000000 := by
  intro x hx
  rcases List.mem_append.mp hx with q | q
  · exact h x q
  · rw [List.mem_singleton] at q
    rw [q]
    exact hz
theorem num_0 {n : Nat} (hn : n + 60 < sz) {e : Ev} (h : ∃ (xs : List Int) (r : Int) (a0 a2 a4 : Option O), xs.length ≤ n ∧ (∀ x ∈ xs, 0 ≤ x ∧ x < 1000000) ∧ e = [a0, some (.nd .lst ((xs.map PyData.int).map .fr)), a2, some (.fr (.int r)), a4]) :
    ∃ e', forL (uN 4) lp_law_numbers_0 (rngL 0 60) e = .nx e' ∧ Inum (n + 60) e' := by
  obtain ⟨e', q1, xs, r, a0, a2, a4, h1, h2, rfl⟩ := for_nx0 (u := uN 4) (g := lp_law_numbers_0) (fun i e => ∃ (xs : List Int) (r : Int) (a0 a2 a4 : Option O), xs.length ≤ n + i ∧ (∀ x ∈ xs, 0 ≤ x ∧ x < 1000000) ∧ e = [a0, some (.nd .lst ((xs.map PyData.int).map .fr)), a2, some (.fr (.int r)), a4]) (ds := rngL 0 60)
    (fun i d e hi ⟨xs, r, a0, a2, a4, h1, h2, h3⟩ => by
      subst h3
      refine ⟨_, rfl, ?_⟩
      have hi' : i < 60 := (List.getElem?_eq_some_iff.mp hi).1
      unfold lp_law_numbers_0
      by_cases hr : 0 < r
      · have ha := app_num (xs := xs) (z := r % 1000000) (f := e2 gMod (eV 3) (eC (.int 1000000))) (a0 := a0) (a2 := a2) (a3 := some (.fr (.int r))) (a4 := some (.fr d)) (by simp [mod6]) (by omega)
        simp -implicitDefEqProofs only [setEv_cons, setEv_nil, List.set_cons_succ, List.set_cons_zero, sIf_ap, t2_ap, e2_ap, eV_ap, List.getElem?_cons_succ, List.getElem?_cons_zero, getD_fr, bind_ok, eC_ap, gGt_i, lift_some, toB_b, out_ok, decide_eq_true hr, if_true, sSeq_ap, ha, seq_nx, sSt_ap, div6, go_nx]
        exact ⟨_, _, _, _, _, by rw [List.length_append]; show xs.length + 1 ≤ _; omega, bd_app h2 (bd6 r), rfl⟩
      · simp -implicitDefEqProofs only [setEv_cons, setEv_nil, List.set_cons_succ, List.set_cons_zero, sIf_ap, t2_ap, e2_ap, eV_ap, List.getElem?_cons_succ, List.getElem?_cons_zero, getD_fr, bind_ok, eC_ap, gGt_i, lift_some, toB_b, out_ok, decide_eq_false hr, Bool.false_eq_true, if_false, sNx_ap, go_nx]
        exact ⟨xs, _, _, _, _, by omega, h2, rfl⟩) h
  exact ⟨_, q1, xs, _, _, _, _, h1, h2, rfl⟩
theorem num_1 {n : Nat} (hn : n + 5 < sz) {e : Ev} (h : ∃ (xs : List Int) (r : Int) (a0 a3 a4 : Option O), xs.length ≤ n ∧ (∀ x ∈ xs, 0 ≤ x ∧ x < 1000000) ∧ e = [a0, some (.nd .lst ((xs.map PyData.int).map .fr)), some (.fr (.int r)), a3, a4]) :
    ∃ e', forL (uN 4) lp_law_numbers_1 (rngL 0 5) e = .nx e' ∧ Inum (n + 5) e' := by
  obtain ⟨e', q1, xs, r, a0, a3, a4, h1, h2, rfl⟩ := for_nx0 (u := uN 4) (g := lp_law_numbers_1) (fun i e => ∃ (xs : List Int) (r : Int) (a0 a3 a4 : Option O), xs.length ≤ n + i ∧ (∀ x ∈ xs, 0 ≤ x ∧ x < 1000000) ∧ e = [a0, some (.nd .lst ((xs.map PyData.int).map .fr)), some (.fr (.int r)), a3, a4]) (ds := rngL 0 5)
    (fun i d e hi ⟨xs, r, a0, a3, a4, h1, h2, h3⟩ => by
      subst h3
      refine ⟨_, rfl, ?_⟩
      have hi' : i < 5 := (List.getElem?_eq_some_iff.mp hi).1
      obtain ⟨j, rfl⟩ : ∃ j : Int, d = .int j := by
        have := List.mem_of_getElem? hi
        unfold rngL at this
        rw [List.mem_map] at this
        obtain ⟨z, _, rfl⟩ := this
        exact ⟨_, rfl⟩
      unfold lp_law_numbers_1
      obtain ⟨f1, m1⟩ := mixed_i (r % 2147483647) j
      obtain ⟨f2, m2⟩ := mixed_i (mixd (r % 2147483647) j) (j + 7)
      have ha := app_num (xs := xs) (z := mixd (mixd (r % 2147483647) j) (j + 7) % 1000000) (f := e2 gMod (eCall 2 [] fn_law_mixed (aCons (eCall 2 [] fn_law_mixed (aCons (e2 gMod (eV 2) (eC (.int 2147483647))) (aCons (eV 4) aNil))) (aCons (e2 gAdd (eV 4) (eC (.int 7))) aNil))) (eC (.int 1000000))) (a0 := a0) (a2 := some (.fr (.int r))) (a3 := a3) (a4 := some (.fr (.int j)))
        (by simp -implicitDefEqProofs [mod6, m1, m2, gMod_i r (show (0 : Int) < 2147483647 by decide)]) (by omega)
      simp -implicitDefEqProofs only [setEv_cons, setEv_nil, List.set_cons_succ, List.set_cons_zero, ha, go_nx]
      exact ⟨_, _, _, _, _, by rw [List.length_append]; show xs.length + 1 ≤ _; omega, bd_app h2 (bd6 _), rfl⟩) h
  exact ⟨_, q1, xs, _, _, _, _, h1, h2, rfl⟩
theorem numbers_i {ns : List Int} (hl : ns.length ≤ 63) : ∃ (xs : List Int) (fin : Ev), fn_law_numbers [.fr (.list (ns.map .int))] = .ret (.list (xs.map .int)) fin ∧ (∀ x ∈ xs, 0 ≤ x ∧ x < 1000000) ∧ xs.length ≤ 4000 := by
  obtain ⟨e', q1, xs, a0, a2, a3, a4, h1, h2, rfl⟩ := for_nx0 (u := uN 2) (g := lp_law_numbers_2) (fun i e => Inum (60 * i) e) (ds := ns.map .int) (e := [some (.fr (.list (ns.map .int))), some (.nd .lst []), none, none, none])
    (fun i d e hi ⟨xs, a0, a2, a3, a4, h1, h2, h3⟩ => by
      subst h3
      refine ⟨_, rfl, ?_⟩
      have hi' : i < ns.length := by have := (List.getElem?_eq_some_iff.mp hi).1; rw [List.length_map] at this; exact this
      obtain ⟨j, rfl⟩ : ∃ j : Int, d = .int j := by
        have := List.mem_of_getElem? hi
        rw [List.mem_map] at this
        obtain ⟨z, _, rfl⟩ := this
        exact ⟨_, rfl⟩
      unfold lp_law_numbers_2
      have hp : gPow (.int 10) (.int 18) = some (.int (10 ^ 18)) := rfl
      have hsz : sz = 16777216 := rfl
      have r6 : rng1 [.int 60] = some (rngL 0 60) := rfl
      have r5 : rng1 [.int 5] = some (rngL 0 5) := rfl
      by_cases hr : (10 : Int) ^ 18 ≤ j
      · obtain ⟨e', q1, q2⟩ := num_0 (n := 60 * i) (by omega) ⟨xs, j, a0, some (.fr (.int j)), a4, h1, h2, rfl⟩
        simp -implicitDefEqProofs only [setEv_cons, setEv_nil, List.set_cons_succ, List.set_cons_zero, sIf_ap, t2_ap, e2_ap, eV_ap, List.getElem?_cons_succ, List.getElem?_cons_zero, getD_fr, bind_ok, eC_ap, gGe_i, hp, lift_some, toB_b, out_ok, decide_eq_true hr, if_true, sSeq_ap, seq_nx, sSt_ap, go_nx, sFor_ap, iL_ap, lCons_ap, lNil_ap, r6, q1]
        exact q2
      · have ha := app_num (xs := xs) (z := j % 1000000) (f := e2 gMod (eV 2) (eC (.int 1000000))) (a0 := a0) (a2 := some (.fr (.int j))) (a3 := a3) (a4 := a4) (by simp [mod6]) (by omega)
        obtain ⟨e', q1, q2⟩ := num_1 (n := 60 * i + 1) (by omega) ⟨xs ++ [j % 1000000], j, a0, a3, a4, by rw [List.length_append]; show xs.length + 1 ≤ _; omega, bd_app h2 (bd6 j), rfl⟩
        simp -implicitDefEqProofs only [setEv_cons, setEv_nil, List.set_cons_succ, List.set_cons_zero, sIf_ap, t2_ap, e2_ap, eV_ap, List.getElem?_cons_succ, List.getElem?_cons_zero, getD_fr, bind_ok, eC_ap, gGe_i, hp, lift_some, toB_b, out_ok, decide_eq_false hr, Bool.false_eq_true, if_false, sSeq_ap, seq_nx, sSt_ap, go_nx, sFor_ap, iL_ap, lCons_ap, lNil_ap, r5, ha, q1]
        obtain ⟨ys, b0, b2, b3, b4, y1, y2, y3⟩ := q2
        exact ⟨ys, b0, b2, b3, b4, by omega, y2, y3⟩) ⟨[], _, _, _, _, Nat.zero_le _, (fun (x : Int) (hx : x ∈ ([] : List Int)) => nomatch hx), rfl⟩
  rw [List.length_map] at h1
  refine ⟨xs, [a0, some (.fr (.list (xs.map .int))), a2, a3, a4], ?_, h2, by omega⟩
  unfold fn_law_numbers
  simp -implicitDefEqProofs only [body_ap, List.map_cons, List.map_nil, List.length_cons, List.length_nil, List.replicate, List.cons_append, List.nil_append, sSeq_ap, sStL_ap, lNil_ap, out_ok, Nat.zero_le, if_true, List.set_cons_succ, List.set_cons_zero, seq_nx, sFor_ap, itm_ap, eV_ap, List.getElem?_cons_succ, List.getElem?_cons_zero, getD_fr, bind_ok, items_l, lift_some, q1, sRt_ap, eVF_ap, getF_lst, fr_rt]
theorem draw_at {xs : List Int} {k : Nat} {e : Ev} (he : e[0]? = some (some (Dr xs k))) : eIxO 0 (eC (.int 0)) e = .ok (.list (xs.map .int)) e ∧ eIxO 0 (eC (.int 1)) e = .ok (.int k) e :=
  ⟨eIxO_ap he rfl rfl, eIxO_ap he rfl rfl⟩
theorem lawdraw_i {xs : List Int} {k : Nat} {m : Int} (hm : 1 ≤ m) : ∃ r fin, fn_law_draw [Dr xs k, .fr (.int m)] = .ret (.int r) fin ∧ 0 ≤ r ∧ r < m ∧ fin[0]? = some (some (Dr xs (k + 1))) := by
  have hmod : ∀ y : Int, gMod (.int y) (.int m) = some (.int (y % m)) := fun y => gMod_i _ (by omega)
  have hb : ∀ y : Int, 0 ≤ y % m ∧ y % m < m := fun y => ⟨Int.emod_nonneg _ (by omega), Int.emod_lt_of_pos _ (by omega)⟩
  have hix : ∀ a1 a3 : Option O, sSix 0 (eC (.int 1)) (e2 gAdd (eV 2) (eC (.int 1))) [some (Dr xs k), a1, some (.fr (.int k)), a3] = .nx [some (Dr xs (k + 1)), a1, some (.fr (.int k)), a3] := fun a1 a3 =>
    sSix_ap (j := 1) (z := 1) (xs := [.fr (.list (xs.map .int)), .fr (.int k)]) (d := .int ((k + 1 : Nat) : Int)) rfl (by simp) rfl rfl
  obtain ⟨d0, d1⟩ := draw_at (xs := xs) (k := k) (e := [some (Dr xs k), some (.fr (.int m)), none, none]) rfl
  obtain ⟨d2, d3⟩ := draw_at (xs := xs) (k := k + 1) (e := [some (Dr xs (k + 1)), some (.fr (.int m)), some (.fr (.int k)), none]) rfl
  obtain ⟨d4, d5⟩ := draw_at (xs := xs) (k := k + 1) (e := [some (Dr xs (k + 1)), some (.fr (.int m)), some (.fr (.int k)), some (.fr (.int (1 + (k : Int))))]) rfl
  unfold fn_law_draw
  by_cases hk : k < xs.length
  · have hat : atI (xs.map PyData.int) (k : Int) = some (.int xs[k]) := atI_nat (by rw [List.getElem?_map, List.getElem?_eq_getElem hk]; rfl)
    refine ⟨xs[k] % m, [some (Dr xs (k + 1)), some (.fr (.int m)), some (.fr (.int k)), none], ?_, (hb _).1, (hb _).2, rfl⟩
    simp -implicitDefEqProofs [d1, hix, d2, hk, hat, hmod]
  · by_cases h0 : 0 < xs.length
    · have hat : atI (xs.map PyData.int) 0 = some (.int xs[0]) := atI_nat (j := 0) (by rw [List.getElem?_map, List.getElem?_eq_getElem h0]; rfl)
      obtain ⟨f1, m1⟩ := mixed_i ((1 : Int) + (k : Int) + (1009 : Int) * xs[0]) k
      obtain ⟨f2, m2⟩ := mixed_i (mixd ((1 : Int) + (k : Int) + (1009 : Int) * xs[0]) k) 5
      refine ⟨mixd (mixd ((1 : Int) + (k : Int) + (1009 : Int) * xs[0]) k) 5 / 7 % m, [some (Dr xs (k + 1)), some (.fr (.int m)), some (.fr (.int k)), some (.fr (.int ((1 : Int) + (k : Int) + (1009 : Int) * xs[0])))], ?_, (hb _).1, (hb _).2, rfl⟩
      simp -implicitDefEqProofs [d1, hix, d2, hk, hat, hmod, d4, h0, gMul_l _ (show in64 1009 = true by decide), m1, m2, gDiv_i _ (show (0 : Int) < 7 ∧ (7 : Int) < 1073741824 by decide)]
    · obtain ⟨f1, m1⟩ := mixed_i (1 + (k : Int)) k
      obtain ⟨f2, m2⟩ := mixed_i (mixd (1 + (k : Int)) k) 5
      refine ⟨mixd (mixd (1 + (k : Int)) k) 5 / 7 % m, [some (Dr xs (k + 1)), some (.fr (.int m)), some (.fr (.int k)), some (.fr (.int (1 + (k : Int))))], ?_, (hb _).1, (hb _).2, rfl⟩
      simp -implicitDefEqProofs [d1, hix, d2, hk, hmod, d4, h0, m1, m2, gDiv_i _ (show (0 : Int) < 7 ∧ (7 : Int) < 1073741824 by decide)]
inductive Okd : Nat → PyData → Prop
  | int (n : Nat) (i : Int) : Okd (n + 1) (.int i)
  | bool (n : Nat) (b : Bool) : Okd (n + 1) (.bool b)
  | non (n : Nat) : Okd (n + 1) .none
  | str (n : Nat) {x : Str} : Asc x → Okd (n + 1) (.str x)
  | list {n : Nat} {ds : List PyData} : ds.length ≤ sz → (∀ d ∈ ds, Okd n d) → Okd (n + 1) (.list ds)
  | tup {n : Nat} {ds : List PyData} : ds.length ≤ sz → (∀ d ∈ ds, Okd n d) → Okd (n + 1) (.tuple ds)
theorem Okd.mono {n : Nat} {d : PyData} (h : Okd n d) : ∀ {m : Nat}, n ≤ m → Okd m d := by
  induction h with
  | int n i => intro m hm; obtain ⟨k, rfl⟩ : ∃ k, m = k + 1 := ⟨m - 1, by omega⟩; exact .int _ _
  | bool n i => intro m hm; obtain ⟨k, rfl⟩ : ∃ k, m = k + 1 := ⟨m - 1, by omega⟩; exact .bool _ _
  | non n => intro m hm; obtain ⟨k, rfl⟩ : ∃ k, m = k + 1 := ⟨m - 1, by omega⟩; exact .non _
  | str n h => intro m hm; obtain ⟨k, rfl⟩ : ∃ k, m = k + 1 := ⟨m - 1, by omega⟩; exact .str _ h
  | list h1 h2 ih => intro m hm; obtain ⟨k, rfl⟩ : ∃ k, m = k + 1 := ⟨m - 1, by omega⟩; exact .list h1 fun d hd => ih d hd (by omega)
  | tup h1 h2 ih => intro m hm; obtain ⟨k, rfl⟩ : ∃ k, m = k + 1 := ⟨m - 1, by omega⟩; exact .tup h1 fun d hd => ih d hd (by omega)
theorem gEq_b (b : Bool) : gEq (.bool b) (.bool b) = some (.bool true) := by cases b <;> rfl
theorem alleq_ok {eq : FM} {c : PyData} {ds : List PyData} (hl : ds.length ≤ sz) (hc : c = .list ds ∨ c = .tuple ds) (h : ∀ d ∈ ds, ∃ fin, eq [.fr d, .fr d] = .ret (.bool true) fin) :
    ∃ e', forL (uN 2) (lp_law_all_equal_0 eq) (rngL 0 ds.length) [some (.fr c), some (.fr c), none] = .nx e' := by
  obtain ⟨e', q1, _⟩ := for_nx0 (u := uN 2) (g := lp_law_all_equal_0 eq) (fun _ e => ∃ a2, e = [some (.fr c), some (.fr c), a2]) (ds := rngL 0 ds.length) (e := [some (.fr c), some (.fr c), none])
    (fun i d e hi ⟨a2, h3⟩ => by
      subst h3
      refine ⟨_, rfl, ?_⟩
      obtain ⟨rfl, hi'⟩ := rng_mem hi
      have hi2 : i < ds.length := by omega
      have hat : gIx c (.int (0 + (i : Int))) = some ds[i] := by
        rw [Int.zero_add]
        rcases hc with rfl | rfl
        · exact atI_nat (List.getElem?_eq_getElem hi2)
        · exact atI_nat (List.getElem?_eq_getElem hi2)
      obtain ⟨fin, hf⟩ := h ds[i] (List.getElem_mem hi2)
      unfold lp_law_all_equal_0
      simp -implicitDefEqProofs only [setEv_cons, setEv_nil, List.set_cons_succ, List.set_cons_zero, sIf_ap, tNot2_ap, tTru_ap, call_ap, aCons_ap, aNil_ap, e2_ap, eV_ap, List.getElem?_cons_succ, List.getElem?_cons_zero, getD_fr, bind_ok, hat, lift_some, args_inl, args_nil, Option.map_some, Option.elim_some, List.length_cons, List.length_nil, nd_inl, nd_nil, and_self, if_true, hf, back_ret, backA_inl, backA_nil, tru_b, Bool.not_true, out_ok, Bool.false_eq_true, if_false, sNx_ap, go_nx]
      exact ⟨_, rfl⟩) ⟨none, rfl⟩
  exact ⟨e', q1⟩
theorem equal_ok : ∀ (n : Nat) (d : PyData), Okd n d → ∃ fin, fn_law_equal (2 * n) [.fr d, .fr d] = .ret (.bool true) fin := by
  intro n
  induction n with
  | zero => intro d h; cases h
  | succ n ih =>
    have hall : ∀ (c : PyData) (ds : List PyData), ds.length ≤ sz → (c = .list ds ∨ c = .tuple ds) → (∀ d ∈ ds, Okd n d) → ∃ fin, fn_law_all_equal (2 * n + 1) [.fr c, .fr c] = .ret (.bool true) fin := by
      intro c ds hl hc hd
      obtain ⟨e', q⟩ := alleq_ok hl hc fun d hd' => ih d (hd d hd')
      have hr : rng1 [.int ds.length] = some (rngL 0 ds.length) := rng1_i (by omega) (by rw [show sz = 16777216 from rfl] at hl; omega)
      have hlen : gLen [c] = some (.int ds.length) := by rcases hc with rfl | rfl <;> rfl
      unfold fn_law_all_equal
      refine ⟨e', ?_⟩
      simp -implicitDefEqProofs [hlen, hr, q]
    intro d h
    show ∃ fin, fn_law_equal (2 * n + 1 + 1) [.fr d, .fr d] = _
    unfold fn_law_equal
    cases h with
    | int n i => simp -implicitDefEqProofs
    | str n h => simp -implicitDefEqProofs [gEq_s h h]
    | bool n b => simp -implicitDefEqProofs [gEq_b]
    | non n =>
      have h1 : gIs .none .none = some (.bool true) := rfl
      simp -implicitDefEqProofs [isi_non, h1]
    | list h1 h2 =>
      obtain ⟨fin, hf⟩ := hall _ _ h1 (.inl rfl) h2
      simp -implicitDefEqProofs [hf]
    | tup h1 h2 =>
      obtain ⟨fin, hf⟩ := hall _ _ h1 (.inr rfl) h2
      simp -implicitDefEqProofs [hf]
theorem is_number_i (v lo hi : Int) : ∃ fin, fn_is_number [.fr (.int v), .fr (.int lo), .fr (.int hi)] = .ret (.bool (decide (lo ≤ v) && decide (v ≤ hi))) fin := by
  unfold fn_is_number
  by_cases h : lo ≤ v <;> simp [h]
end Lw

set_option Elab.async false
set_option linter.all false
set_option maxRecDepth 100000
set_option maxHeartbeats 4000000
set_option autoImplicit false
namespace Lw
open PySem PySem.Spec L2 Ly
theorem getD_mem {α : Type} {l : List α} {i : Nat} {d : α} (h : i < l.length) : l.getD i d ∈ l := by
  rw [List.getD_eq_getElem?_getD, List.getElem?_eq_getElem h]
  exact List.getElem_mem h
theorem getD_at {α : Type} {l : List α} {i : Nat} {d : α} (h : i < l.length) : l.getD i d = l[i] := by
  rw [List.getD_eq_getElem?_getD, List.getElem?_eq_getElem h]
  rfl
theorem gIx_m {α : Type} (g : α → PyData) {l : List α} {i : Nat} (d : α) (h : i < l.length) : gIx (.list (l.map g)) (.int i) = some (g (l.getD i d)) := by
  show atI _ _ = _
  refine atI_nat ?_
  rw [List.getElem?_map, List.getElem?_eq_getElem h, List.getD_eq_getElem?_getD, List.getElem?_eq_getElem h]
  rfl
theorem gLen_m {α : Type} (g : α → PyData) (l : List α) : gLen [.list (l.map g)] = some (.int l.length) := by
  show some (PyData.int _) = _
  rw [List.length_map]
abbrev Gr := List (List Nat)
abbrev gD (S : Gr) : PyData := .list (S.map tD)
def at2 (S : Gr) (r c : Nat) : Nat := (S.getD r []).getD c 0
structure Shp (S : Gr) (h w : Nat) (cs : List Nat) : Prop where
  h0 : S.length = h
  h1 : 1 ≤ h
  h2 : h ≤ 60
  w0 : ∀ r ∈ S, r.length = w
  w1 : 1 ≤ w
  w2 : w ≤ 60
  c0 : ∀ r ∈ S, ∀ c ∈ r, c ∈ cs
  c1 : ∀ c ∈ cs, c < 128
section
variable {S : Gr} {h w : Nat} {cs : List Nat}
theorem Shp.rl (p : Shp S h w cs) {r : Nat} (hr : r < h) : (S.getD r []).length = w := p.w0 _ (getD_mem (by rw [p.h0]; exact hr))
theorem Shp.at (p : Shp S h w cs) {r c : Nat} (hr : r < h) (hc : c < w) : at2 S r c ∈ cs := p.c0 _ (getD_mem (by rw [p.h0]; exact hr)) _ (getD_mem (by rw [p.rl hr]; exact hc))
theorem Shp.asc (p : Shp S h w cs) : ∀ r ∈ S, Asc (tx r) := fun r hr => asc_mk (fun c hc => p.c1 c (p.c0 r hr c hc)) (by rw [p.w0 r hr, sz_v]; have := p.w2; omega)
theorem Shp.ix (p : Shp S h w cs) {r : Nat} (hr : r < h) : gIx (gD S) (.int r) = some (tD (S.getD r [])) := gIx_m tD [] (by rw [p.h0]; exact hr)
theorem Shp.ix2 (p : Shp S h w cs) {r c : Nat} (hr : r < h) (hc : c < w) : gIx (tD (S.getD r [])) (.int c) = some (ch (at2 S r c)) :=
  gIx_tx (by rw [p.rl hr, sz_v]; have := p.w2; omega) (by
    have hl : c < (S.getD r []).length := by rw [p.rl hr]; exact hc
    unfold at2
    rw [getD_at hl]
    exact List.getElem?_eq_getElem hl)
theorem Shp.len (p : Shp S h w cs) : gLen [gD S] = some (.int h) := by rw [gLen_m, p.h0]
theorem Shp.len2 (p : Shp S h w cs) {r : Nat} (hr : r < h) : gLen [tD (S.getD r [])] = some (.int w) := by
  rw [gLen_tx (by rw [p.rl hr, sz_v]; have := p.w2; omega), p.rl hr]
theorem Shp.lenr (p : Shp S h w cs) {r : List Nat} (hr : r ∈ S) : gLen [tD r] = some (.int w) := by
  rw [gLen_tx (by rw [p.w0 r hr, sz_v]; have := p.w2; omega), p.w0 r hr]
end
theorem items_tx (cs : List Nat) : itemsD (tD cs) = some (cs.map ch) := rfl
theorem is_sheet_i {S : Gr} {h w : Nat} {cs : List Nat} (p : Shp S h w cs) {sg : Str} (hs : ∀ c ∈ cs, c ∈ sg.cps.toList) : ∃ fin, fn_is_sheet [.fr (gD S), .fr (.str sg)] = .ret (.bool true) fin := by
  have h1 := p.h1
  have h2 := p.h2
  have w1 := p.w1
  have w2 := p.w2
  have hlen := p.len
  have hix0 := p.ix (r := 0) (by omega)
  have hix0 : gIx (gD S) (.int 0) = some (tD (S.getD 0 [])) := hix0
  have hl0 := p.len2 (r := 0) (by omega)
  have d1 : decide ((1 : Int) ≤ (h : Int)) = true := decide_eq_true (by omega)
  have d2 : decide ((h : Int) ≤ 60) = true := decide_eq_true (by omega)
  have d3 : decide ((1 : Int) ≤ (w : Int)) = true := decide_eq_true (by omega)
  have d4 : decide ((w : Int) ≤ 60) = true := decide_eq_true (by omega)
  have hz : (S.map tD).length ≤ sz := by rw [List.length_map, p.h0, sz_v]; omega
  have ht : truD (.list []) = some false := rfl
  have hnw : gNe (.int (w : Nat)) (.int (w : Nat)) = some (.bool false) := gNe_self (n := 0) (dpt_int 0 _) (by omega)
  have c1 : compL (uN 2) (tNot2 (tTru (eIsi .str (eV 2)))) (eV 2) [2] (S.map tD) [some (.fr (gD S)), some (.fr (.str sg)), none, none] = .ok [] [some (.fr (gD S)), some (.fr (.str sg)), none, none] := by
    have := comp_fm (u := uN 2) (t := tNot2 (tTru (eIsi .str (eV 2)))) (f := eV 2) (own := [2]) (g := tD) (y := tD) (p := fun _ => false) (e0 := [some (.fr (gD S)), some (.fr (.str sg)), none, none]) S fun r hr => ⟨[(2, tD r)], rfl, by
      simp -implicitDefEqProofs only [setEv_cons, setEv_nil, List.set_cons_succ, List.set_cons_zero, tNot2_ap, tTru_ap, eIsi_ap, eV_ap, List.getElem?_cons_succ, List.getElem?_cons_zero, getD_fr, bind_ok, isi_strs, tru_b, lift_some, Bool.not_true, gets_ok, wipe_cons, wipe_nil, true_and, Bool.false_eq_true, false_implies, and_true]⟩
    rw [List.filter_eq_nil_iff.mpr (fun _ _ z => by cases z), List.map_nil] at this
    exact this
  have c2 : compL (uN 2) (t2 gNe (eL gLen (lCons (eV 2) lNil)) (eL gLen (lCons (e2 gIx (eV 0) (eC (.int 0))) lNil))) (eV 2) [2] (S.map tD) [some (.fr (gD S)), some (.fr (.str sg)), none, none] = .ok [] [some (.fr (gD S)), some (.fr (.str sg)), none, none] := by
    have := comp_fm (u := uN 2) (t := t2 gNe (eL gLen (lCons (eV 2) lNil)) (eL gLen (lCons (e2 gIx (eV 0) (eC (.int 0))) lNil))) (f := eV 2) (own := [2]) (g := tD) (y := tD) (p := fun _ => false) (e0 := [some (.fr (gD S)), some (.fr (.str sg)), none, none]) S fun r hr => ⟨[(2, tD r)], rfl, by
      have hlr := p.lenr hr
      simp -implicitDefEqProofs only [setEv_cons, setEv_nil, List.set_cons_succ, List.set_cons_zero, t2_ap, e2_ap, eL_ap, lCons_ap, lNil_ap, eV_ap, eC_ap, List.getElem?_cons_succ, List.getElem?_cons_zero, getD_fr, bind_ok, hlr, hix0, hl0, hnw, lift_some, toB_b, gets_ok, wipe_cons, wipe_nil, true_and, Bool.false_eq_true, false_implies, and_true]⟩
    rw [List.filter_eq_nil_iff.mpr (fun _ _ z => by cases z), List.map_nil] at this
    exact this
  have c4 : compL (uN 2) (tTru (eComp (itm (eV 2)) (uN 3) (t2 gNin (eV 3) (eV 1)) (eV 3) [3])) (eV 2) [2] (S.map tD) [some (.fr (gD S)), some (.fr (.str sg)), none, none] = .ok [] [some (.fr (gD S)), some (.fr (.str sg)), none, none] := by
    have := comp_fm (u := uN 2) (t := tTru (eComp (itm (eV 2)) (uN 3) (t2 gNin (eV 3) (eV 1)) (eV 3) [3])) (f := eV 2) (own := [2]) (g := tD) (y := tD) (p := fun _ => false) (e0 := [some (.fr (gD S)), some (.fr (.str sg)), none, none]) S fun r hr => ⟨[(2, tD r)], rfl, by
      have hzr : (r.map ch).length ≤ sz := by rw [List.length_map, p.w0 r hr, sz_v]; omega
      have c3 : compL (uN 3) (t2 gNin (eV 3) (eV 1)) (eV 3) [3] (r.map ch) [some (.fr (gD S)), some (.fr (.str sg)), some (.fr (tD r)), none] = .ok [] [some (.fr (gD S)), some (.fr (.str sg)), some (.fr (tD r)), none] := by
        have := comp_fm (u := uN 3) (t := t2 gNin (eV 3) (eV 1)) (f := eV 3) (own := [3]) (g := ch) (y := ch) (p := fun _ => false) (e0 := [some (.fr (gD S)), some (.fr (.str sg)), some (.fr (tD r)), none]) r fun c hc => ⟨[(3, ch c)], rfl, by
          have hni : gNin (ch c) (.str sg) = some (.bool false) := by rw [gNin_ch, decide_eq_true (hs c (p.c0 r hr c hc))]; rfl
          simp -implicitDefEqProofs only [setEv_cons, setEv_nil, List.set_cons_succ, List.set_cons_zero, t2_ap, e2_ap, eV_ap, List.getElem?_cons_succ, List.getElem?_cons_zero, getD_fr, bind_ok, hni, lift_some, toB_b, gets_ok, wipe_cons, wipe_nil, true_and, Bool.false_eq_true, false_implies, and_true]⟩
        rw [List.filter_eq_nil_iff.mpr (fun _ _ z => by cases z), List.map_nil] at this
        exact this
      have hit := items_tx r
      simp -implicitDefEqProofs only [setEv_cons, setEv_nil, List.set_cons_succ, List.set_cons_zero, tTru_ap, eComp_ap, itm_ap, eV_ap, List.getElem?_cons_succ, List.getElem?_cons_zero, getD_fr, bind_ok, hit, lift_some, hzr, if_true, wipe_cons, wipe_nil, c3, rest_cons, rest_nil, frO_none, ht, gets_ok, true_and, Bool.false_eq_true, false_implies, and_true]⟩
    rw [List.filter_eq_nil_iff.mpr (fun _ _ z => by cases z), List.map_nil] at this
    exact this
  have hq : gEq (.list []) (.list []) = some (.bool true) := gEq_nil (ds := []) (by decide)
  have h0s : (0 : Nat) ≤ sz := Nat.zero_le _
  unfold fn_is_sheet
  refine ⟨[some (.fr (gD S)), some (.fr (.str sg)), none, none], ?_⟩
  rw [body_st [some (.fr (gD S)), some (.fr (.str sg)), none, none]]
  have s1 : sIf (tOr2 (tNot2 (tTru (eIsi .list (eV 0)))) (tNot2 (tB2 (eCh gLe gLe (eC (.int 1)) (eL gLen (lCons (eV 0) lNil)) (eC (.int 60)))))) (sRt (eC (.bool false))) sNx [some (.fr (gD S)), some (.fr (.str sg)), none, none] = .nx [some (.fr (gD S)), some (.fr (.str sg)), none, none] := by
    simp -implicitDefEqProofs only [sIf_ap, tOr2_ap, tNot2_ap, tTru_ap, tB2_ap, eCh_ap, eL_ap, lCons_ap, lNil_ap, eC_ap, eIsi_ap, eV_ap, List.getElem?_cons_succ, List.getElem?_cons_zero, getD_fr, bind_ok, isi_listl, tru_b, lift_some, Bool.not_true, Bool.false_eq_true, if_false, hlen, gLe_i, d1, d2, toB_b, if_true, out_ok, sNx_ap]
  have s2 : sIf (tTru (eComp (itm (eV 0)) (uN 2) (tNot2 (tTru (eIsi .str (eV 2)))) (eV 2) [2])) (sRt (eC (.bool false))) sNx [some (.fr (gD S)), some (.fr (.str sg)), none, none] = .nx [some (.fr (gD S)), some (.fr (.str sg)), none, none] := by
    simp -implicitDefEqProofs only [sIf_ap, tTru_ap, eComp_ap, itm_ap, eV_ap, List.getElem?_cons_succ, List.getElem?_cons_zero, getD_fr, bind_ok, items_l, lift_some, hz, if_true, wipe_cons, wipe_nil, List.set_cons_succ, List.set_cons_zero, c1, rest_cons, rest_nil, frO_none, ht, out_ok, Bool.false_eq_true, if_false, sNx_ap]
  have s3 : sIf (tOr2 (tNot2 (tB2 (eCh gLe gLe (eC (.int 1)) (eL gLen (lCons (e2 gIx (eV 0) (eC (.int 0))) lNil)) (eC (.int 60))))) (tTru (eComp (itm (eV 0)) (uN 2) (t2 gNe (eL gLen (lCons (eV 2) lNil)) (eL gLen (lCons (e2 gIx (eV 0) (eC (.int 0))) lNil))) (eV 2) [2]))) (sRt (eC (.bool false))) sNx [some (.fr (gD S)), some (.fr (.str sg)), none, none] = .nx [some (.fr (gD S)), some (.fr (.str sg)), none, none] := by
    simp -implicitDefEqProofs only [sIf_ap, tOr2_ap, tNot2_ap, tTru_ap, tB2_ap, eCh_ap, eL_ap, lCons_ap, lNil_ap, eC_ap, e2_ap, eComp_ap, itm_ap, eV_ap, List.getElem?_cons_succ, List.getElem?_cons_zero, getD_fr, bind_ok, hix0, lift_some, hl0, gLe_i, d3, d4, toB_b, if_true, Bool.not_true, Bool.false_eq_true, if_false, items_l, hz, wipe_cons, wipe_nil, List.set_cons_succ, List.set_cons_zero, c2, rest_cons, rest_nil, frO_none, ht, out_ok, sNx_ap]
  rw [seq_step s1, seq_step s2, seq_step s3]
  simp -implicitDefEqProofs only [sRt_ap, e2_ap (g := gEq), eComp_ap, itm_ap, eV_ap, List.getElem?_cons_succ, List.getElem?_cons_zero, getD_fr, bind_ok, items_l, lift_some, hz, if_true, wipe_cons, wipe_nil, List.set_cons_succ, List.set_cons_zero, c4, rest_cons, rest_nil, frO_none, eList_ap, lNil_ap, List.length_nil, h0s, hq, out_ok, fr_rt]
abbrev LT : Str := ("ABCDEFGHIJKLMNOPQRSTUVWXYZ" : Str)
abbrev csS : List Nat := [65, 66, 67, 35]
abbrev csE : List Nat := [65, 66, 67, 35, 68, 46]
theorem sg_S : ∀ c ∈ csS, c ∈ (LT ++ ("#" : Str)).cps.toList := by decide +kernel
theorem sg_E : ∀ c ∈ csE, c ∈ (LT ++ ("#." : Str)).cps.toList := by decide +kernel
theorem adds {x y : Str} (h : x.length + y.length ≤ sz) : gAdd (.str x) (.str y) = some (.str (x ++ y)) := if_pos h
theorem add_S : gAdd (.str LT) (.str ("#" : Str)) = some (.str (LT ++ ("#" : Str))) := adds (by decide)
theorem add_E : gAdd (.str LT) (.str ("#." : Str)) = some (.str (LT ++ ("#." : Str))) := adds (by decide)
theorem check_sol {S : Gr} {h w : Nat} (p : Shp S h w csS) : ∃ fin, fn_check_solution [.fr (gD S)] = .ret .none fin := by
  obtain ⟨f1, q1⟩ := is_sheet_i p sg_S
  have ha := add_S
  unfold fn_check_solution
  refine ⟨[some (.fr (gD S))], ?_⟩
  rw [body_st [some (.fr (gD S))]]
  simp -implicitDefEqProofs only [sIf_ap, tNot2_ap, tTru_ap, call_ap, aCons_ap, aNil_ap, e2_ap, eC_ap, ha, eV_ap, List.getElem?_cons_succ, List.getElem?_cons_zero, getD_fr, bind_ok, lift_some, args_inl, args_nil, Option.map_some, Option.elim_some, List.length_cons, List.length_nil, nd_inl, nd_nil, and_self, if_true, q1, back_ret, backA_inl, backA_nil, tru_b, Bool.not_true, out_ok, Bool.false_eq_true, if_false, sNx_ap, fr_nx]
end Lw

set_option Elab.async false
set_option linter.all false
set_option maxRecDepth 100000
set_option maxHeartbeats 4000000
set_option autoImplicit false
namespace Lw
open PySem PySem.Spec L2 Ly
abbrev Cl := Nat × Nat
abbrev cD (p : Cl) : PyData := .tuple [.int p.1, .int p.2]
abbrev lD (l : List Cl) : PyData := .list (l.map cD)
abbrev ltD (ls : List (List Cl)) : PyData := .list (ls.map lD)
abbrev iN (k : Nat) : PyData := .int k
abbrev lN (l : List Nat) : PyData := .list (l.map iN)
theorem hash_ch : PyData.str ("#" : Str) = ch 35 := rfl
theorem dot_ch : PyData.str ("." : Str) = ch 46 := rfl
theorem csE_lt : ∀ c ∈ csE, c < 128 := by decide
theorem csS_lt : ∀ c ∈ csS, c < 128 := by decide
/-- an entry for a solution -/
structure Ent (S E : Gr) (h w : Nat) : Prop where
  s : Shp S h w csS
  e : Shp E h w csE
  b : ∀ r c, r < h → c < w → (at2 E r c = 35 ↔ at2 S r c = 35)
theorem check_ent {S E : Gr} {h w : Nat} (p : Ent S E h w) : ∃ fin, fn_check_entry [.fr (gD S), .fr (gD E)] = .ret .none fin := by
  obtain ⟨f1, q1⟩ := is_sheet_i p.e sg_E
  have ha := add_E
  have h60 := p.s.h2
  have w60 := p.s.w2
  have h1 := p.s.h1
  have hlE := p.e.len
  have hlS := p.s.len
  have hiE : gIx (gD E) (.int 0) = some (tD (E.getD 0 [])) := p.e.ix (r := 0) (by omega)
  have hiS : gIx (gD S) (.int 0) = some (tD (S.getD 0 [])) := p.s.ix (r := 0) (by omega)
  have hwE := p.e.len2 (r := 0) (by omega)
  have hwS := p.s.len2 (r := 0) (by omega)
  have hnh : gNe (.int (h : Nat)) (.int (h : Nat)) = some (.bool false) := gNe_self (n := 0) (dpt_int 0 _) (by omega)
  have hnw : gNe (.int (w : Nat)) (.int (w : Nat)) = some (.bool false) := gNe_self (n := 0) (dpt_int 0 _) (by omega)
  have s1 : sIf (tOr2 (tNot2 (tTru (eCall 2 [] fn_is_sheet (aCons (eV 1) (aCons (e2 gAdd (eC (.str ("ABCDEFGHIJKLMNOPQRSTUVWXYZ" : Str))) (eC (.str ("#." : Str)))) aNil))))) (tOr2 (t2 gNe (eL gLen (lCons (eV 1) lNil)) (eL gLen (lCons (eV 0) lNil))) (t2 gNe (eL gLen (lCons (e2 gIx (eV 1) (eC (.int 0))) lNil)) (eL gLen (lCons (e2 gIx (eV 0) (eC (.int 0))) lNil))))) (sRaise ("BadPuzzle" : Str)) sNx [some (.fr (gD S)), some (.fr (gD E)), none, none] = .nx [some (.fr (gD S)), some (.fr (gD E)), none, none] := by
    simp -implicitDefEqProofs only [sIf_ap, tOr2_ap, tNot2_ap, tTru_ap, t2_ap, call_ap, aCons_ap, aNil_ap, e2_ap, eL_ap, lCons_ap, lNil_ap, eC_ap, ha, eV_ap, List.getElem?_cons_succ, List.getElem?_cons_zero, getD_fr, bind_ok, lift_some, args_inl, args_nil, Option.map_some, Option.elim_some, List.length_cons, List.length_nil, nd_inl, nd_nil, and_self, if_true, q1, back_ret, backA_inl, backA_nil, tru_b, Bool.not_true, Bool.false_eq_true, if_false, hlE, hlS, hnh, toB_b, hiE, hiS, hwE, hwS, hnw, out_ok, sNx_ap]
  obtain ⟨e', q, a2, rfl⟩ := for_inv (u := uN 2) (g := lp_check_entry_0) (fun e => ∃ a2, e = [some (.fr (gD S)), some (.fr (gD E)), a2, none]) (ds := (List.range h).map iN) (e := [some (.fr (gD S)), some (.fr (gD E)), none, none])
    (fun d hd e ⟨a2, he⟩ => by
      subst he
      obtain ⟨r, hr, rfl⟩ := List.mem_map.mp hd
      have hr := List.mem_range.mp hr
      refine ⟨[(2, iN r)], rfl, ?_⟩
      show (lp_check_entry_0 [some (.fr (gD S)), some (.fr (gD E)), some (.fr (.int r)), none]).go _
      have hxE := p.e.ix hr
      have hxS := p.s.ix hr
      have hll := p.e.len2 hr
      have hrg : rng1 [.int (w : Nat)] = some (rngL 0 (w : Nat)) := rng1_i (by omega) (by omega)
      have hz : (rngL 0 (w : Nat)).length ≤ sz := by rw [rngL_len, sz_v]; omega
      have c1 : compL (uN 3) (t2 gNe (e2 gEq (e2 gIx (e2 gIx (eV 1) (eV 2)) (eV 3)) (eC (.str ("#" : Str)))) (e2 gEq (e2 gIx (e2 gIx (eV 0) (eV 2)) (eV 3)) (eC (.str ("#" : Str))))) (eV 3) [3] (rngL 0 (w : Nat)) [some (.fr (gD S)), some (.fr (gD E)), some (.fr (.int r)), none] = .ok [] [some (.fr (gD S)), some (.fr (gD E)), some (.fr (.int r)), none] := by
        rw [rngL_0]
        have := comp_fm (u := uN 3) (t := t2 gNe (e2 gEq (e2 gIx (e2 gIx (eV 1) (eV 2)) (eV 3)) (eC (.str ("#" : Str)))) (e2 gEq (e2 gIx (e2 gIx (eV 0) (eV 2)) (eV 3)) (eC (.str ("#" : Str))))) (f := eV 3) (own := [3]) (g := iN) (y := iN) (p := fun _ => false) (e0 := [some (.fr (gD S)), some (.fr (gD E)), some (.fr (.int r)), none]) (List.range w) fun c hc => ⟨[(3, iN c)], rfl, by
          have hc := List.mem_range.mp hc
          have hyE := p.e.ix2 hr hc
          have hyS := p.s.ix2 hr hc
          have g1 := gEq_ch (a := at2 E r c) (b := 35) (csE_lt _ (p.e.at hr hc)) (by omega)
          have g2 := gEq_ch (a := at2 S r c) (b := 35) (csS_lt _ (p.s.at hr hc)) (by omega)
          have hb : decide (at2 E r c = 35) = decide (at2 S r c = 35) := decide_eq_decide.mpr (p.b r c hr hc)
          rw [hb] at g1
          have g3 : gNe (.bool (decide (at2 S r c = 35))) (.bool (decide (at2 S r c = 35))) = some (.bool false) := gNe_self (n := 0) (dpt_bool 0 _) (by omega)
          simp -implicitDefEqProofs only [setEv_cons, setEv_nil, List.set_cons_succ, List.set_cons_zero, t2_ap, e2_ap, eV_ap, eC_ap, hash_ch, List.getElem?_cons_succ, List.getElem?_cons_zero, getD_fr, bind_ok, hxE, hxS, hyE, hyS, g1, g2, g3, lift_some, toB_b, gets_ok, wipe_cons, wipe_nil, true_and, Bool.false_eq_true, false_implies, and_true]⟩
        rw [List.filter_eq_nil_iff.mpr (fun _ _ z => by cases z), List.map_nil] at this
        exact this
      have ht : truD (.list []) = some false := rfl
      unfold lp_check_entry_0
      simp -implicitDefEqProofs only [sIf_ap, tTru_ap, eComp_ap, iL_ap, lCons_ap, lNil_ap, eL_ap, e2_ap, eV_ap, List.getElem?_cons_succ, List.getElem?_cons_zero, getD_fr, bind_ok, hxE, hll, lift_some, hrg, hz, if_true, wipe_cons, wipe_nil, List.set_cons_succ, List.set_cons_zero, c1, rest_cons, rest_nil, frO_none, ht, out_ok, Bool.false_eq_true, if_false, sNx_ap, go_nx]
      exact ⟨_, rfl⟩) ⟨none, rfl⟩
  have hrg : rng1 [.int (h : Nat)] = some (rngL 0 (h : Nat)) := rng1_i (by omega) (by omega)
  rw [show (List.range h).map iN = rngL 0 (h : Nat) from (rngL_0 h).symm] at q
  have s2 : sFor (iL rng1 (lCons (eL gLen (lCons (eV 1) lNil)) lNil)) (uN 2) lp_check_entry_0 [some (.fr (gD S)), some (.fr (gD E)), none, none] = .nx [some (.fr (gD S)), some (.fr (gD E)), a2, none] := by
    simp -implicitDefEqProofs only [sFor_ap, iL_ap, lCons_ap, lNil_ap, eL_ap, eV_ap, List.getElem?_cons_succ, List.getElem?_cons_zero, getD_fr, bind_ok, hlE, lift_some, hrg, out_ok, q]
  unfold fn_check_entry
  refine ⟨[some (.fr (gD S)), some (.fr (gD E)), a2, none], ?_⟩
  rw [body_st [some (.fr (gD S)), some (.fr (gD E)), none, none], seq_step s1, s2]
  rfl
def Cel (S : Gr) (h w : Nat) (p : Cl) : Prop := p.1 < h ∧ p.2 < w ∧ at2 S p.1 p.2 ≠ 35
theorem is_cell_i {S : Gr} {h w : Nat} (p : Shp S h w csS) {c : Cl} (hc : Cel S h w c) : ∃ fin, fn_is_cell [.fr (cD c), .fr (gD S)] = .ret (.bool true) fin := by
  obtain ⟨c1, c2, c3⟩ := hc
  obtain ⟨f1, q1⟩ := is_number_i (c.1 : Int) 0 ((h : Int) - 1)
  rw [decide_eq_true (by omega : (0 : Int) ≤ (c.1 : Int)), decide_eq_true (by omega : (c.1 : Int) ≤ (h : Int) - 1)] at q1
  obtain ⟨f2, q2⟩ := is_number_i (c.2 : Int) 0 ((w : Int) - 1)
  rw [decide_eq_true (by omega : (0 : Int) ≤ (c.2 : Int)), decide_eq_true (by omega : (c.2 : Int) ≤ (w : Int) - 1)] at q2
  have hl : gLen [cD c] = some (.int 2) := rfl
  have hn2 : gNe (.int 2) (.int 2) = some (.bool false) := rfl
  have h0 : gIx (cD c) (.int 0) = some (.int c.1) := rfl
  have h1 : gIx (cD c) (.int 1) = some (.int c.2) := rfl
  have hlS := p.len
  have hiS : gIx (gD S) (.int 0) = some (tD (S.getD 0 [])) := p.ix (r := 0) (by omega)
  have hwS := p.len2 (r := 0) (by omega)
  have hx := p.ix c1
  have hy := p.ix2 c1 c2
  have hne : gNe (ch (at2 S c.1 c.2)) (ch 35) = some (.bool true) := by
    rw [gNe_ch (csS_lt _ (p.at c1 c2)) (by omega), decide_eq_false c3]
    rfl
  unfold fn_is_cell
  refine ⟨[some (.fr (cD c)), some (.fr (gD S))], ?_⟩
  rw [body_st [some (.fr (cD c)), some (.fr (gD S))]]
  have s1 : sIf (tOr2 (tNot2 (tTru (eIsi .tuple (eV 0)))) (tOr2 (t2 gNe (eL gLen (lCons (eV 0) lNil)) (eC (.int 2))) (tNot2 (tTru (eCall 3 [] fn_is_number (aCons (e2 gIx (eV 0) (eC (.int 0))) (aCons (eC (.int 0)) (aCons (e2 gSub (eL gLen (lCons (eV 1) lNil)) (eC (.int 1))) aNil)))))))) (sRt (eC (.bool false))) sNx [some (.fr (cD c)), some (.fr (gD S))] = .nx [some (.fr (cD c)), some (.fr (gD S))] := by
    simp -implicitDefEqProofs only [sIf_ap, tOr2_ap, tNot2_ap, tTru_ap, t2_ap, eIsi_ap, call_ap, aCons_ap, aNil_ap, e2_ap, eL_ap, lCons_ap, lNil_ap, eC_ap, eV_ap, List.getElem?_cons_succ, List.getElem?_cons_zero, getD_fr, bind_ok, isi_tupt, tru_b, lift_some, Bool.not_true, Bool.false_eq_true, if_false, hl, hn2, toB_b, h0, hlS, gSub_i, args_inl, args_nil, Option.map_some, Option.elim_some, List.length_cons, List.length_nil, nd_inl, nd_nil, and_self, if_true, q1, back_ret, backA_inl, backA_nil, Bool.and_self, out_ok, sNx_ap]
  rw [seq_step s1]
  simp -implicitDefEqProofs only [sRt_ap, eAnd_ap, call_ap, aCons_ap, aNil_ap, e2_ap, eL_ap, lCons_ap, lNil_ap, eC_ap, hash_ch, eV_ap, List.getElem?_cons_succ, List.getElem?_cons_zero, getD_fr, bind_ok, h0, h1, hiS, hwS, gSub_i, lift_some, args_inl, args_nil, Option.map_some, Option.elim_some, List.length_cons, List.length_nil, nd_inl, nd_nil, and_self, if_true, q2, back_ret, backA_inl, backA_nil, Bool.and_self, tru_b, hx, hy, hne, out_ok, fr_rt]
/-- lights of cells -/
structure Lts (S : Gr) (h w : Nat) (ls : List (List Cl)) : Prop where
  n : ls.length ≤ 200
  l : ∀ l ∈ ls, 2 ≤ l.length ∧ l.length < 64 ∧ l.Nodup ∧ ∀ c ∈ l, Cel S h w c
theorem tups_l : ∀ l : List Cl, tupsD (l.map cD) = some (l.map fun c => [(c.1 : Int), (c.2 : Int)])
  | [] => rfl
  | c :: l => by
    show (intsD [.int c.1, .int c.2]).bind (fun k => (tupsD (l.map cD)).map fun r => k :: r) = _
    rw [tups_l l]
    rfl
theorem lenset_l {l : List Cl} (h : l.length < 64) (hn : l.Nodup) : gLenSet (lD l) = some (.int l.length) := by
  show (tupsD (l.map cD)).bind _ = _
  rw [tups_l]
  have hnd : (l.map fun c : Cl => [(c.1 : Int), (c.2 : Int)]).Nodup := List.pairwise_map.mpr (hn.imp fun {a b} hab z => hab (by
    have z1 : (a.1 : Int) = b.1 := (List.cons.inj z).1
    have z2 : (a.2 : Int) = b.2 := (List.cons.inj (List.cons.inj z).2).1
    exact Prod.ext (by omega) (by omega)))
  show (if (l.map fun c : Cl => [(c.1 : Int), (c.2 : Int)]).length < 64 then some (PyData.int ((dst (l.map fun c : Cl => [(c.1 : Int), (c.2 : Int)])).length : Nat)) else none) = _
  rw [if_pos (by rw [List.length_map]; exact h), dst_id hnd, List.length_map]
theorem check_lts {S : Gr} {h w : Nat} (p : Shp S h w csS) {ls : List (List Cl)} (hl : Lts S h w ls) : ∃ fin, fn_check_lights [.fr (gD S), .fr (ltD ls)] = .ret .none fin := by
  have hlen := gLen_m lD ls
  have hgt : gGt (.int (ls.length : Nat)) (.int 200) = some (.bool false) := by
    show some (PyData.bool (decide ((200 : Int) < (ls.length : Int)))) = _
    rw [decide_eq_false (by have := hl.n; omega)]
  have s1 : sIf (tOr2 (tNot2 (tTru (eIsi .list (eV 1)))) (t2 gGt (eL gLen (lCons (eV 1) lNil)) (eC (.int 200)))) (sRaise ("BadRule" : Str)) sNx [some (.fr (gD S)), some (.fr (ltD ls)), none, none] = .nx [some (.fr (gD S)), some (.fr (ltD ls)), none, none] := by
    simp -implicitDefEqProofs only [sIf_ap, tOr2_ap, tNot2_ap, tTru_ap, t2_ap, e2_ap, eIsi_ap, eL_ap, lCons_ap, lNil_ap, eC_ap, eV_ap, List.getElem?_cons_succ, List.getElem?_cons_zero, getD_fr, bind_ok, isi_listl, tru_b, lift_some, Bool.not_true, Bool.false_eq_true, if_false, hlen, hgt, toB_b, out_ok, sNx_ap]
  obtain ⟨e', q, a2, rfl⟩ := for_inv (u := uN 2) (g := lp_check_lights_0) (fun e => ∃ a2, e = [some (.fr (gD S)), some (.fr (ltD ls)), a2, none]) (ds := ls.map lD) (e := [some (.fr (gD S)), some (.fr (ltD ls)), none, none])
    (fun d hd e ⟨a2, he⟩ => by
      subst he
      obtain ⟨l, hlm, rfl⟩ := List.mem_map.mp hd
      obtain ⟨l1, l2, l3, l4⟩ := hl.l l hlm
      refine ⟨[(2, lD l)], rfl, ?_⟩
      show (lp_check_lights_0 [some (.fr (gD S)), some (.fr (ltD ls)), some (.fr (lD l)), none]).go _
      have hll := gLen_m cD l
      have hlt : gLt (.int (l.length : Nat)) (.int 2) = some (.bool false) := by
        rw [gLt_i, decide_eq_false (by omega)]
      have hz : (l.map cD).length ≤ sz := by rw [List.length_map, sz_v]; omega
      have c1 : compL (uN 3) (tNot2 (tTru (eCall 2 [] fn_is_cell (aCons (eV 3) (aCons (eV 0) aNil))))) (eV 3) [3] (l.map cD) [some (.fr (gD S)), some (.fr (ltD ls)), some (.fr (lD l)), none] = .ok [] [some (.fr (gD S)), some (.fr (ltD ls)), some (.fr (lD l)), none] := by
        have := comp_fm (u := uN 3) (t := tNot2 (tTru (eCall 2 [] fn_is_cell (aCons (eV 3) (aCons (eV 0) aNil))))) (f := eV 3) (own := [3]) (g := cD) (y := cD) (p := fun _ => false) (e0 := [some (.fr (gD S)), some (.fr (ltD ls)), some (.fr (lD l)), none]) l fun c hc => ⟨[(3, cD c)], rfl, by
          obtain ⟨f1, q1⟩ := is_cell_i p (l4 c hc)
          simp -implicitDefEqProofs only [setEv_cons, setEv_nil, List.set_cons_succ, List.set_cons_zero, tNot2_ap, tTru_ap, call_ap, aCons_ap, aNil_ap, eV_ap, List.getElem?_cons_succ, List.getElem?_cons_zero, getD_fr, bind_ok, args_inl, args_nil, Option.map_some, Option.elim_some, List.length_cons, List.length_nil, nd_inl, nd_nil, and_self, if_true, q1, back_ret, backA_inl, backA_nil, tru_b, lift_some, Bool.not_true, gets_ok, wipe_cons, wipe_nil, true_and, Bool.false_eq_true, false_implies, and_true]⟩
        rw [List.filter_eq_nil_iff.mpr (fun _ _ z => by cases z), List.map_nil] at this
        exact this
      have ht : truD (.list []) = some false := rfl
      have hls := lenset_l l2 l3
      have hnl : gNe (.int (l.length : Nat)) (.int (l.length : Nat)) = some (.bool false) := gNe_self (n := 0) (dpt_int 0 _) (by omega)
      have t1 : sIf (tOr2 (tNot2 (tTru (eIsi .list (eV 2)))) (tOr2 (t2 gLt (eL gLen (lCons (eV 2) lNil)) (eC (.int 2))) (tTru (eComp (itm (eV 2)) (uN 3) (tNot2 (tTru (eCall 2 [] fn_is_cell (aCons (eV 3) (aCons (eV 0) aNil))))) (eV 3) [3])))) (sRaise ("BadRule" : Str)) sNx [some (.fr (gD S)), some (.fr (ltD ls)), some (.fr (lD l)), none] = .nx [some (.fr (gD S)), some (.fr (ltD ls)), some (.fr (lD l)), none] := by
        simp -implicitDefEqProofs only [sIf_ap, tOr2_ap, tNot2_ap, tTru_ap, t2_ap, e2_ap, eIsi_ap, eL_ap, lCons_ap, lNil_ap, eC_ap, eComp_ap, itm_ap, eV_ap, List.getElem?_cons_succ, List.getElem?_cons_zero, getD_fr, bind_ok, isi_listl, tru_b, lift_some, Bool.not_true, Bool.false_eq_true, if_false, hll, hlt, toB_b, items_l, hz, if_true, wipe_cons, wipe_nil, List.set_cons_succ, List.set_cons_zero, c1, rest_cons, rest_nil, frO_none, ht, out_ok, sNx_ap]
      have heL : eLenSet (eV 2) [some (.fr (gD S)), some (.fr (ltD ls)), some (.fr (lD l)), none] = .ok (.int l.length) [some (.fr (gD S)), some (.fr (ltD ls)), some (.fr (lD l)), none] := by
        show lift (gLenSet (lD l)) _ = _
        rw [hls]
        rfl
      unfold lp_check_lights_0
      rw [seq_step t1, sIf_ap, t2_ap, e2_ap, heL]
      simp -implicitDefEqProofs only [eL_ap, lCons_ap, lNil_ap, eV_ap, List.getElem?_cons_succ, List.getElem?_cons_zero, getD_fr, bind_ok, hll, hnl, lift_some, toB_b, out_ok, Bool.false_eq_true, if_false, sNx_ap, go_nx]
      exact ⟨_, rfl⟩) ⟨none, rfl⟩
  have s2 : sFor (itm (eV 1)) (uN 2) lp_check_lights_0 [some (.fr (gD S)), some (.fr (ltD ls)), none, none] = .nx [some (.fr (gD S)), some (.fr (ltD ls)), a2, none] := by
    simp -implicitDefEqProofs only [sFor_ap, itm_ap, eV_ap, List.getElem?_cons_succ, List.getElem?_cons_zero, getD_fr, bind_ok, items_l, lift_some, out_ok, q]
  unfold fn_check_lights
  refine ⟨[some (.fr (gD S)), some (.fr (ltD ls)), a2, none], ?_⟩
  rw [body_st [some (.fr (gD S)), some (.fr (ltD ls)), none, none], seq_step s1, s2]
  rfl
end Lw

set_option Elab.async false
set_option linter.all false
set_option maxRecDepth 100000
set_option maxHeartbeats 4000000
set_option autoImplicit false
namespace Lw
open PySem PySem.Spec L2 Ly
abbrev row (w r : Nat) : List Cl := (List.range w).map fun c => (r, c)
def sqs (h w : Nat) : List Cl := (List.range h).flatMap (row w)
def pre (w i j : Nat) : List Cl := sqs i w ++ (List.range j).map fun c => (i, c)
theorem pre_0 (w i : Nat) : pre w i 0 = sqs i w := List.append_nil _
theorem sqs_succ (w i : Nat) : sqs (i + 1) w = pre w i w := by
  unfold sqs pre
  rw [List.range_succ, List.flatMap_append, List.flatMap_cons, List.flatMap_nil, List.append_nil]
  rfl
theorem pre_succ (w i j : Nat) : pre w i (j + 1) = pre w i j ++ [(i, j)] := by
  unfold pre
  rw [List.range_succ, List.map_append, List.append_assoc]
  rfl
theorem sqs_len (w : Nat) : ∀ h, (sqs h w).length = h * w
  | 0 => by rw [Nat.zero_mul]; rfl
  | h + 1 => by
    rw [sqs_succ]
    unfold pre
    rw [List.length_append, sqs_len w h, List.length_map, List.length_range, Nat.succ_mul]
theorem sqs_mem {h w : Nat} {p : Cl} : p ∈ sqs h w ↔ p.1 < h ∧ p.2 < w := by
  unfold sqs
  rw [List.mem_flatMap]
  constructor
  · rintro ⟨r, hr, hp⟩
    obtain ⟨c, hc, rfl⟩ := List.mem_map.mp hp
    exact ⟨List.mem_range.mp hr, List.mem_range.mp hc⟩
  · rintro ⟨h1, h2⟩
    exact ⟨p.1, List.mem_range.mpr h1, List.mem_map.mpr ⟨p.2, List.mem_range.mpr h2, rfl⟩⟩
def fE (E : Gr) (p : Cl) : Bool := decide (at2 E p.1 p.2 = 46)
def fW (S E : Gr) (p : Cl) : Bool := !decide (at2 E p.1 p.2 = 46) && !decide (at2 E p.1 p.2 = at2 S p.1 p.2)
abbrev wr (S E : Gr) (h w : Nat) : List Cl := (sqs h w).filter (fW S E)
abbrev em (E : Gr) (h w : Nat) : List Cl := (sqs h w).filter (fE E)
def bd (S E : Gr) (h w : Nat) (p : Cl) : Bool := decide (p ∈ wr S E h w) || decide (p ∈ em E h w)
def rt (S E : Gr) (h w : Nat) (ls : List (List Cl)) : List Nat := (List.range ls.length).filter fun k => ((ls.getD k []).filter (bd S E h w)).isEmpty
def mkD (S E : Gr) (h w : Nat) (ls : List (List Cl)) : PyData := .tuple [lD (wr S E h w), lD (em E h w), lN (rt S E h w ls)]
abbrev oC (l : List Cl) : O := .nd .lst ((l.map cD).map .fr)
theorem oC_snoc (l : List Cl) (x : Cl) : oC (l ++ [x]) = .nd .lst ((l.map cD ++ [cD x]).map .fr) := by
  show O.nd .lst (((l ++ [x]).map cD).map .fr) = _
  rw [List.map_append]
  rfl
theorem filter_snoc {α : Type} (p : α → Bool) (l : List α) (x : α) : (l ++ [x]).filter p = if p x then l.filter p ++ [x] else l.filter p := by
  rw [List.filter_append]
  cases h : p x with
  | true => rw [List.filter_cons_of_pos h, List.filter_nil, if_pos rfl]
  | false => rw [List.filter_cons_of_neg (by rw [h]; exact Bool.false_ne_true), List.filter_nil, List.append_nil, if_neg Bool.false_ne_true]
theorem pre_len (w i j : Nat) : (pre w i j).length = i * w + j := by
  unfold pre
  rw [List.length_append, sqs_len, List.length_map, List.length_range]
section
variable {S E : Gr} {h w : Nat} {lt : PyData}
def Im (S E : Gr) (w : Nat) (lt : PyData) (i j : Nat) (e : Ev) : Prop := ∃ a8, e = [some (.fr (gD S)), some (.fr (gD E)), some (.fr lt), some (oC ((pre w i j).filter (fW S E))), some (oC ((pre w i j).filter (fE E))), some (.fr (.int i)), none, none, a8, none, none]
theorem mk0_i (p : Ent S E h w) {i : Nat} (hi : i < h) (j d : Nat) (e : Ev) (hd : (List.range w)[j]? = some d) (hI : Im S E w lt i j e) : ∃ as, uN 8 (iN d) = some as ∧ (lp_marks_of_0 (setEv e as)).go (Im S E w lt i (j + 1)) := by
  obtain ⟨a8, rfl⟩ := hI
  have hjl := (List.getElem?_eq_some_iff.mp hd).1
  rw [List.length_range] at hjl
  have : d = j := by
    rw [List.getElem?_range hjl] at hd
    exact (Option.some.inj hd).symm
  subst this
  refine ⟨[(8, iN d)], rfl, ?_⟩
  have hxE := p.e.ix hi
  have hxS := p.s.ix hi
  have hyE := p.e.ix2 hi hjl
  have hyS := p.s.ix2 hi hjl
  have lE := csE_lt _ (p.e.at hi hjl)
  have lS := csS_lt _ (p.s.at hi hjl)
  have g1 := gEq_ch (a := at2 E i d) (b := 46) lE (by omega)
  have g2 := gNe_ch (a := at2 E i d) (b := at2 S i d) lE lS
  have hpl := pre_len w i d
  have h60 := p.s.h2
  have w60 := p.s.w2
  have hb : i * w ≤ 60 * 60 := Nat.mul_le_mul (by omega) w60
  have h2s : (2 : Nat) ≤ sz := by rw [sz_v]; omega
  have hlW : ((pre w i d).filter (fW S E)).length ≤ i * w + d := by rw [← hpl]; exact List.length_filter_le _ _
  have hlE : ((pre w i d).filter (fE E)).length ≤ i * w + d := by rw [← hpl]; exact List.length_filter_le _ _
  unfold Im
  rw [pre_succ, filter_snoc, filter_snoc]
  generalize hW : (pre w i d).filter (fW S E) = W at *
  generalize hM : (pre w i d).filter (fE E) = M at *
  have hfE : fE E (i, d) = decide (at2 E i d = 46) := rfl
  have hfW : fW S E (i, d) = (!decide (at2 E i d = 46) && !decide (at2 E i d = at2 S i d)) := rfl
  rw [hfE, hfW]
  show (lp_marks_of_0 [some (.fr (gD S)), some (.fr (gD E)), some (.fr lt), some (oC W), some (oC M), some (.fr (.int i)), none, none, some (.fr (.int d)), none, none]).go _
  have htup : eTup (lCons (eV 5) (lCons (eV 8) lNil)) [some (.fr (gD S)), some (.fr (gD E)), some (.fr lt), some (oC W), some (oC M), some (.fr (.int i)), none, none, some (.fr (.int d)), none, none] = .ok (cD (i, d)) [some (.fr (gD S)), some (.fr (gD E)), some (.fr lt), some (oC W), some (oC M), some (.fr (.int i)), none, none, some (.fr (.int d)), none, none] := by
    simp -implicitDefEqProofs only [eTup_ap, lCons_ap, lNil_ap, eV_ap, List.getElem?_cons_succ, List.getElem?_cons_zero, getD_fr, bind_ok, List.length_cons, List.length_nil, Nat.zero_add, h2s, if_true]
  have hcell : e2 gIx (e2 gIx (eV 1) (eV 5)) (eV 8) [some (.fr (gD S)), some (.fr (gD E)), some (.fr lt), some (oC W), some (oC M), some (.fr (.int i)), none, none, some (.fr (.int d)), none, none] = .ok (ch (at2 E i d)) [some (.fr (gD S)), some (.fr (gD E)), some (.fr lt), some (oC W), some (oC M), some (.fr (.int i)), none, none, some (.fr (.int d)), none, none] := by
    simp -implicitDefEqProofs only [e2_ap, eV_ap, List.getElem?_cons_succ, List.getElem?_cons_zero, getD_fr, bind_ok, hxE, hyE, lift_some]
  unfold lp_marks_of_0
  rw [sIf_ap, t2_ap, e2_ap (g := gEq), hcell]
  simp -implicitDefEqProofs only [bind_ok, eC_ap, dot_ch, g1, lift_some, toB_b, out_ok]
  cases q : decide (at2 E i d = 46) with
  | true =>
    simp -implicitDefEqProofs only [if_true, Bool.not_true, Bool.false_and, Bool.false_eq_true, if_false]
    rw [sApp_at (i := 4) (xs := M.map cD) (d := cD (i, d)) rfl (by rw [lCons_ap, htup]; rfl) (by rw [List.length_map, sz_v]; omega), go_nx]
    exact ⟨some (.fr (.int d)), by rw [oC_snoc]; rfl⟩
  | false =>
    simp -implicitDefEqProofs only [Bool.false_eq_true, if_false, Bool.not_false, Bool.true_and]
    rw [sIf_ap, t2_ap, e2_ap (g := gNe), hcell]
    simp -implicitDefEqProofs only [bind_ok, e2_ap, eV_ap, List.getElem?_cons_succ, List.getElem?_cons_zero, getD_fr, hxS, hyS, g2, lift_some, toB_b, out_ok]
    cases q2 : decide (at2 E i d = at2 S i d) with
    | true =>
      simp -implicitDefEqProofs only [Bool.not_true, Bool.false_eq_true, if_false, sNx_ap, go_nx]
      exact ⟨_, rfl⟩
    | false =>
      simp -implicitDefEqProofs only [Bool.not_false, if_true]
      rw [sApp_at (i := 3) (xs := W.map cD) (d := cD (i, d)) rfl (by rw [lCons_ap, htup]; rfl) (by rw [List.length_map, sz_v]; omega), go_nx]
      exact ⟨some (.fr (.int d)), by rw [oC_snoc]; rfl⟩
def Im2 (S E : Gr) (w : Nat) (lt : PyData) (i : Nat) (e : Ev) : Prop := ∃ a5 a8, e = [some (.fr (gD S)), some (.fr (gD E)), some (.fr lt), some (oC ((sqs i w).filter (fW S E))), some (oC ((sqs i w).filter (fE E))), a5, none, none, a8, none, none]
theorem mk1_i (p : Ent S E h w) (i d : Nat) (e : Ev) (hd : (List.range h)[i]? = some d) (hI : Im2 S E w lt i e) : ∃ as, uN 5 (iN d) = some as ∧ (lp_marks_of_1 (setEv e as)).go (Im2 S E w lt (i + 1)) := by
  obtain ⟨a5, a8, rfl⟩ := hI
  have hil := (List.getElem?_eq_some_iff.mp hd).1
  rw [List.length_range] at hil
  have : d = i := by
    rw [List.getElem?_range hil] at hd
    exact (Option.some.inj hd).symm
  subst this
  have w60 := p.s.w2
  have hxE := p.e.ix hil
  have hll := p.e.len2 hil
  have hrg : rng1 [.int (w : Nat)] = some (rngL 0 (w : Nat)) := rng1_i (by omega) (by omega)
  refine ⟨[(5, iN d)], rfl, ?_⟩
  show (lp_marks_of_1 [some (.fr (gD S)), some (.fr (gD E)), some (.fr lt), some (oC ((sqs d w).filter (fW S E))), some (oC ((sqs d w).filter (fE E))), some (.fr (.int d)), none, none, a8, none, none]).go _
  obtain ⟨e', q, b8, rfl⟩ := for_go (u := uN 8) (g := lp_marks_of_0) (gd := iN) (Im S E w lt d) (l := List.range w) (e := [some (.fr (gD S)), some (.fr (gD E)), some (.fr lt), some (oC ((sqs d w).filter (fW S E))), some (oC ((sqs d w).filter (fE E))), some (.fr (.int d)), none, none, a8, none, none])
    (fun j x e hx hI => mk0_i p hil j x e hx hI) ⟨a8, by rw [pre_0]⟩
  rw [List.length_range, show (List.range w).map iN = rngL 0 (w : Nat) from (rngL_0 w).symm, ← sqs_succ] at q
  unfold lp_marks_of_1
  simp -implicitDefEqProofs only [sFor_ap, iL_ap, lCons_ap, lNil_ap, eL_ap, e2_ap, eV_ap, List.getElem?_cons_succ, List.getElem?_cons_zero, getD_fr, bind_ok, hxE, hll, lift_some, hrg, out_ok]
  rw [q, go_nx]
  exact ⟨_, _, rfl⟩
end
/-! the dict of bad cells -/
def badP (l : List Cl) (D : List (List Key × PyData)) : List (List Key × PyData) := l.foldl (fun D p => putP D (k2 p.1 p.2) (.bool true)) D
theorem badP_len : ∀ (l : List Cl) (D : List (List Key × PyData)), (badP l D).length ≤ D.length + l.length
  | [], D => Nat.le_refl _
  | p :: l, D => by
    have a := badP_len l (putP D (k2 p.1 p.2) (.bool true))
    have b := putP_len D (k2 p.1 p.2) (.bool true)
    rw [List.length_cons]
    show (badP l (putP D (k2 p.1 p.2) (.bool true))).length ≤ _
    omega
theorem badP_val (q : Cl) : ∀ (l : List Cl) (D : List (List Key × PyData)), (valP (badP l D) (k2 q.1 q.2)).isSome = ((valP D (k2 q.1 q.2)).isSome || decide (q ∈ l))
  | [], D => by
    show (valP D (k2 q.1 q.2)).isSome = _
    rw [decide_eq_false (fun z => by cases z), Bool.or_false]
  | p :: l, D => by
    show (valP (badP l (putP D (k2 p.1 p.2) (.bool true))) (k2 q.1 q.2)).isSome = _
    rw [badP_val q l, valP_put]
    by_cases c : q = p
    · subst c
      rw [if_pos rfl, decide_eq_true (List.mem_cons_self (a := q) (l := l))]
      show (true || _) = _
      rw [Bool.true_or, Bool.or_true]
    · rw [if_neg fun z => c (by
        obtain ⟨z1, z2⟩ := k2_inj.mp z
        exact Prod.ext z1 z2)]
      congr 1
      exact decide_eq_decide.mpr ⟨fun h => List.mem_cons_of_mem _ h, fun h => (List.mem_cons.mp h).elim (fun z => absurd z c) id⟩
theorem bad_c {e0 : Ev} (hs : ∀ x, (e0.set 9 x).set 9 none = e0) (h9 : ∀ x, (e0.set 9 x)[9]? = some x) : ∀ (l : List Cl) (D : List (List Key × PyData)), D.length + l.length < sz → compD (uN 9) tT (eV 9) (eC (.bool true)) [9] (l.map cD) (dT D) e0 = .ok (dT (badP l D)) e0
  | [], D, _ => rfl
  | p :: l, D, hz => by
    rw [List.length_cons] at hz
    have hp := dput_dT D (d := cD p) (k := k2 p.1 p.2) (k2_D _ _) (.bool true) (by omega)
    have hstep : compD (uN 9) tT (eV 9) (eC (.bool true)) [9] ((p :: l).map cD) (dT D) e0 = ((eV 9 (e0.set 9 (some (.fr (cD p))))).nox.bind fun k e3 => (eC (.bool true) e3).nox.bind fun v e4 => (dputO (dT D) k v).elim .no fun o' => compD (uN 9) tT (eV 9) (eC (.bool true)) [9] (l.map cD) o' (wipeE e4 [9])) := rfl
    have hv : eV 9 (e0.set 9 (some (.fr (cD p)))) = .ok (cD p) (e0.set 9 (some (.fr (cD p)))) := by rw [eV_ap, h9]; rfl
    rw [hstep, hv]
    show (dputO (dT D) (cD p) (.bool true)).elim .no (fun o' => compD (uN 9) tT (eV 9) (eC (.bool true)) [9] (l.map cD) o' ((e0.set 9 (some (.fr (cD p)))).set 9 none)) = _
    rw [hp, Option.elim_some, hs]
    have hl := putP_len D (k2 p.1 p.2) (.bool true)
    exact bad_c hs h9 l _ (by omega)
theorem din_bad (l : List Cl) (q : Cl) : gDin (cD q) (dicT (badP l [])) = some (.bool (decide (q ∈ l))) := by
  unfold gDin
  rw [lookD_T _ (k2_D q.1 q.2), Option.map_some, badP_val]
  rfl
theorem dpt_cD (p : Cl) : Dpt 1 (cD p) := dpt_tup fun d hd => by
  rcases List.mem_cons.mp hd with rfl | hd
  · exact dpt_int 0 _
  · rw [List.mem_singleton] at hd
    rw [hd]
    exact dpt_int 0 _
theorem dpt_lD (l : List Cl) : Dpt 2 (lD l) := dpt_list fun d hd => by
  obtain ⟨k, _, rfl⟩ := List.mem_map.mp hd
  exact dpt_cD _
theorem isE_map {α β : Type} (f : α → β) (l : List α) : (l.map f).isEmpty = l.isEmpty := by cases l <;> rfl
theorem marks_i {S E : Gr} {h w : Nat} (p : Ent S E h w) {ls : List (List Cl)} (hl : Lts S h w ls) : ∃ fin, fn_marks_of [.fr (gD S), .fr (gD E), .fr (ltD ls)] = .ret (mkD S E h w ls) fin := by
  have h60 := p.s.h2
  have w60 := p.s.w2
  have hb : h * w ≤ 60 * 60 := Nat.mul_le_mul h60 w60
  have hlE := p.e.len
  have hrg : rng1 [.int (h : Nat)] = some (rngL 0 (h : Nat)) := rng1_i (by omega) (by omega)
  have h0s : (0 : Nat) ≤ sz := Nat.zero_le _
  have h3s : (3 : Nat) ≤ sz := by rw [sz_v]; omega
  have st1 : sStL 3 lNil [some (.fr (gD S)), some (.fr (gD E)), some (.fr (ltD ls)), none, none, none, none, none, none, none, none] = .nx [some (.fr (gD S)), some (.fr (gD E)), some (.fr (ltD ls)), some (oC []), none, none, none, none, none, none, none] := by
    rw [sStL_ap, lNil_ap, out_ok, if_pos (show ([] : List PyData).length ≤ sz from h0s)]; rfl
  have st2 : sStL 4 lNil [some (.fr (gD S)), some (.fr (gD E)), some (.fr (ltD ls)), some (oC []), none, none, none, none, none, none, none] = .nx [some (.fr (gD S)), some (.fr (gD E)), some (.fr (ltD ls)), some (oC []), some (oC []), none, none, none, none, none, none] := by
    rw [sStL_ap, lNil_ap, out_ok, if_pos (show ([] : List PyData).length ≤ sz from h0s)]; rfl
  obtain ⟨e', q, a5, a8, rfl⟩ := for_go (u := uN 5) (g := lp_marks_of_1) (gd := iN) (Im2 S E w (ltD ls)) (l := List.range h) (e := [some (.fr (gD S)), some (.fr (gD E)), some (.fr (ltD ls)), some (oC []), some (oC []), none, none, none, none, none, none])
    (fun i d e hd hI => mk1_i p i d e hd hI) ⟨none, none, rfl⟩
  rw [List.length_range, show (List.range h).map iN = rngL 0 (h : Nat) from (rngL_0 h).symm] at q
  have st3 : sFor (iL rng1 (lCons (eL gLen (lCons (eV 1) lNil)) lNil)) (uN 5) lp_marks_of_1 [some (.fr (gD S)), some (.fr (gD E)), some (.fr (ltD ls)), some (oC []), some (oC []), none, none, none, none, none, none] = .nx [some (.fr (gD S)), some (.fr (gD E)), some (.fr (ltD ls)), some (oC (wr S E h w)), some (oC (em E h w)), a5, none, none, a8, none, none] := by
    simp -implicitDefEqProofs only [sFor_ap, iL_ap, lCons_ap, lNil_ap, eL_ap, eV_ap, List.getElem?_cons_succ, List.getElem?_cons_zero, getD_fr, bind_ok, hlE, lift_some, hrg, out_ok, q]
  have hWl : (wr S E h w).length ≤ 3600 := Nat.le_trans (List.length_filter_le _ _) (by rw [sqs_len]; omega)
  have hMl : (em E h w).length ≤ 3600 := Nat.le_trans (List.length_filter_le _ _) (by rw [sqs_len]; omega)
  have hbd : ∀ x, bd S E h w x = decide (x ∈ wr S E h w ++ em E h w) := fun x => by
    unfold bd
    by_cases c1 : x ∈ wr S E h w
    · rw [decide_eq_true c1, Bool.true_or, decide_eq_true (List.mem_append_left _ c1)]
    · by_cases c2 : x ∈ em E h w
      · rw [decide_eq_true c2, Bool.or_true, decide_eq_true (List.mem_append_right _ c2)]
      · rw [decide_eq_false c1, decide_eq_false c2, decide_eq_false fun z => (List.mem_append.mp z).elim c1 c2]
        rfl
  unfold mkD rt
  generalize wr S E h w = W at *
  generalize em E h w = M at *
  have hfW : O.fz (oC W) = some (lD W) := by rw [O.fz, fzL_fr]; rfl
  have hfM : O.fz (oC M) = some (lD M) := by rw [O.fz, fzL_fr]; rfl
  have hadd : gAdd (lD W) (lD M) = some (lD (W ++ M)) := by
    rw [gAdd_l (by rw [List.length_map, List.length_map, sz_v]; omega), ← List.map_append]
  have hz : ((W ++ M).map cD).length ≤ sz := by rw [List.length_map, List.length_append, sz_v]; omega
  have hbc := bad_c (e0 := [some (.fr (gD S)), some (.fr (gD E)), some (.fr (ltD ls)), some (.fr (lD W)), some (.fr (lD M)), a5, none, none, a8, none, none]) (fun x => rfl) (fun x => rfl) (W ++ M) [] (by rw [List.length_nil, List.length_append, sz_v]; omega)
  have hit : itm (e2 gAdd (eVF 3) (eVF 4)) [some (.fr (gD S)), some (.fr (gD E)), some (.fr (ltD ls)), some (oC W), some (oC M), a5, none, none, a8, none, none] = .ok ((W ++ M).map cD) [some (.fr (gD S)), some (.fr (gD E)), some (.fr (ltD ls)), some (.fr (lD W)), some (.fr (lD M)), a5, none, none, a8, none, none] := by
    simp -implicitDefEqProofs only [itm_ap, e2_ap, eVF_ap, List.getElem?_cons_succ, List.getElem?_cons_zero, getF_some hfW, getF_some hfM, bind_ok, List.set_cons_succ, List.set_cons_zero, hadd, lift_some, items_l]
  have hdc : eDC true (itm (e2 gAdd (eVF 3) (eVF 4))) (uN 9) tT (eV 9) (eC (.bool true)) [9] [some (.fr (gD S)), some (.fr (gD E)), some (.fr (ltD ls)), some (oC W), some (oC M), a5, none, none, a8, none, none] = .ok (dicT (badP (W ++ M) [])) [some (.fr (gD S)), some (.fr (gD E)), some (.fr (ltD ls)), some (.fr (lD W)), some (.fr (lD M)), a5, none, none, a8, none, none] := by
    show (itm (e2 gAdd (eVF 3) (eVF 4)) _).bind _ = _
    rw [hit, bind_ok, if_pos hz]
    have hnew : newD true = dT [] := rfl
    have hw : wipeE [some (.fr (gD S)), some (.fr (gD E)), some (.fr (ltD ls)), some (.fr (lD W)), some (.fr (lD M)), a5, none, none, a8, none, none] [9] = [some (.fr (gD S)), some (.fr (gD E)), some (.fr (ltD ls)), some (.fr (lD W)), some (.fr (lD M)), a5, none, none, a8, none, none] := rfl
    rw [hnew, hw, hbc, bind_ok]
    show (O.fz (dT (badP (W ++ M) []))).elim Res.no _ = _
    rw [fz_mkT, Option.elim_some]
    rfl
  have st4 : sSt 6 (eDC true (itm (e2 gAdd (eVF 3) (eVF 4))) (uN 9) tT (eV 9) (eC (.bool true)) [9]) [some (.fr (gD S)), some (.fr (gD E)), some (.fr (ltD ls)), some (oC W), some (oC M), a5, none, none, a8, none, none] = .nx [some (.fr (gD S)), some (.fr (gD E)), some (.fr (ltD ls)), some (.fr (lD W)), some (.fr (lD M)), a5, some (.fr (dicT (badP (W ++ M) []))), none, a8, none, none] := by
    rw [sSt_ap, hdc]
    rfl
  have hdin := din_bad (W ++ M)
  generalize dicT (badP (W ++ M) []) = B at *
  have hlL := gLen_m lD ls
  have hn := hl.n
  have hrl : rng1 [.int (ls.length : Nat)] = some (rngL 0 (ls.length : Nat)) := rng1_i (by omega) (by omega)
  have hzl : (rngL 0 (ls.length : Nat)).length ≤ sz := by rw [rngL_len, sz_v]; omega
  have c5 : compL (uN 10) (t2 gEq (eComp (itm (e2 gIx (eV 2) (eV 10))) (uN 9) (tB2 (e2 gDin (eV 9) (eV 6))) (eV 9) [9]) (eList lNil)) (eV 10) [10] (rngL 0 (ls.length : Nat)) [some (.fr (gD S)), some (.fr (gD E)), some (.fr (ltD ls)), some (.fr (lD W)), some (.fr (lD M)), a5, some (.fr B), none, a8, none, none] = .ok (((List.range ls.length).filter fun k => ((ls.getD k []).filter (bd S E h w)).isEmpty).map iN) [some (.fr (gD S)), some (.fr (gD E)), some (.fr (ltD ls)), some (.fr (lD W)), some (.fr (lD M)), a5, some (.fr B), none, a8, none, none] := by
    rw [rngL_0]
    refine comp_fm (g := iN) (y := iN) (p := fun k => ((ls.getD k []).filter (bd S E h w)).isEmpty) _ fun k hk => ⟨[(10, iN k)], rfl, ?_⟩
    have hk := List.mem_range.mp hk
    have hix := gIx_m lD (l := ls) (i := k) [] hk
    have hlk := (hl.l _ (getD_mem (d := []) hk)).2.1
    have hzk : ((ls.getD k []).map cD).length ≤ sz := by rw [List.length_map, sz_v]; omega
    have c4 : compL (uN 9) (tB2 (e2 gDin (eV 9) (eV 6))) (eV 9) [9] ((ls.getD k []).map cD) [some (.fr (gD S)), some (.fr (gD E)), some (.fr (ltD ls)), some (.fr (lD W)), some (.fr (lD M)), a5, some (.fr B), none, a8, none, some (.fr (iN k))] = .ok (((ls.getD k []).filter (bd S E h w)).map cD) [some (.fr (gD S)), some (.fr (gD E)), some (.fr (ltD ls)), some (.fr (lD W)), some (.fr (lD M)), a5, some (.fr B), none, a8, none, some (.fr (iN k))] := by
      refine comp_fm (g := cD) (y := cD) (p := bd S E h w) _ fun c hc => ⟨[(9, cD c)], rfl, ?_⟩
      have hd := hdin c
      rw [← hbd c] at hd
      simp -implicitDefEqProofs only [setEv_cons, setEv_nil, List.set_cons_succ, List.set_cons_zero, tB2_ap, e2_ap, eV_ap, List.getElem?_cons_succ, List.getElem?_cons_zero, getD_fr, bind_ok, hd, lift_some, toB_b, gets_ok, wipe_cons, wipe_nil, true_and, implies_true, and_self]
    have hq := gEq_nil (ds := ((ls.getD k []).filter (bd S E h w)).map cD) (Dpt.shaped (dpt_lD _) (by omega))
    rw [isE_map] at hq
    simp -implicitDefEqProofs only [setEv_cons, setEv_nil, List.set_cons_succ, List.set_cons_zero, t2_ap, e2_ap (g := gEq), eComp_ap, itm_ap, e2_ap (g := gIx), eV_ap, List.getElem?_cons_succ, List.getElem?_cons_zero, getD_fr, bind_ok, hix, lift_some, items_l, hzk, if_true, wipe_cons, wipe_nil, c4, rest_cons, rest_nil, frO_none, eList_ap, lNil_ap, List.length_nil, h0s, hq, toB_b, gets_ok, true_and, implies_true, and_self]
  have st5 : sSt 7 (eComp (iL rng1 (lCons (eL gLen (lCons (eV 2) lNil)) lNil)) (uN 10) (t2 gEq (eComp (itm (e2 gIx (eV 2) (eV 10))) (uN 9) (tB2 (e2 gDin (eV 9) (eV 6))) (eV 9) [9]) (eList lNil)) (eV 10) [10]) [some (.fr (gD S)), some (.fr (gD E)), some (.fr (ltD ls)), some (.fr (lD W)), some (.fr (lD M)), a5, some (.fr B), none, a8, none, none] = .nx [some (.fr (gD S)), some (.fr (gD E)), some (.fr (ltD ls)), some (.fr (lD W)), some (.fr (lD M)), a5, some (.fr B), some (.fr (lN ((List.range ls.length).filter fun k => ((ls.getD k []).filter (bd S E h w)).isEmpty))), a8, none, none] := by
    simp -implicitDefEqProofs only [sSt_ap, eComp_ap, iL_ap, lCons_ap, lNil_ap, eL_ap, eV_ap, List.getElem?_cons_succ, List.getElem?_cons_zero, getD_fr, bind_ok, hlL, lift_some, hrl, hzl, if_true, wipe_cons, wipe_nil, List.set_cons_succ, List.set_cons_zero, c5, rest_cons, rest_nil, frO_none, out_ok]
  have hfd : ∀ d : PyData, O.fz (.fr d) = some d := fun d => by rw [O.fz]
  refine ⟨[some (.fr (gD S)), some (.fr (gD E)), some (.fr (ltD ls)), some (.fr (lD W)), some (.fr (lD M)), a5, some (.fr B), some (.fr (lN ((List.range ls.length).filter fun k => ((ls.getD k []).filter (bd S E h w)).isEmpty))), a8, none, none], ?_⟩
  unfold fn_marks_of
  rw [body_st [some (.fr (gD S)), some (.fr (gD E)), some (.fr (ltD ls)), none, none, none, none, none, none, none, none], seq_step st1, seq_step st2, seq_step st3, seq_step st4, seq_step st5]
  simp -implicitDefEqProofs only [sRt_ap, eTup_ap, lCons_ap, lNil_ap, eVF_ap, eV_ap, List.getElem?_cons_succ, List.getElem?_cons_zero, getF_some (hfd _), getD_fr, bind_ok, List.set_cons_succ, List.set_cons_zero, List.length_cons, List.length_nil, Nat.zero_add, h3s, if_true, out_ok, fr_rt]
end Lw

set_option Elab.async false
set_option linter.all false
set_option maxRecDepth 100000
set_option maxHeartbeats 4000000
set_option autoImplicit false
namespace Lw
open PySem PySem.Spec L2 Ly
/-- a call whose arguments are data -/
theorem gcall {fn : FM} {e : Ev} {x : PyData} {its : Ly.AM} {ds : List PyData} {n : Nat} {fin e1 : Ev} (hi : its e = .ok (ds.map .inl) e1) (hn : ds.length = n) (hf : fn (ds.map .fr) = .ret x fin) : eCall n [] fn its e = .ok x e1 := by
  rw [call_ap, hi]
  simp -implicitDefEqProofs only [bind_ok]
  rw [argsOf_inl, Option.elim_some, if_pos ⟨by rw [List.length_map]; exact hn, ndIo_ds ds⟩, hf, back_ret, backA_ds]
theorem eqt {e e1 e2 : Ev} {f1 f2 : EM} {d : PyData} (h1 : f1 e = .ok d e1) (h2 : f2 e1 = .ok d e2) (hd : Okd 4 d) : tNot2 (tTru (eCall 2 [] (fn_law_equal 8) (aCons f1 (aCons f2 aNil)))) e = .ok false e2 := by
  obtain ⟨f, q⟩ := equal_ok 4 d hd
  have hc := gcall (fn := fn_law_equal 8) (e := e) (e1 := e2) (x := .bool true) (its := aCons f1 (aCons f2 aNil)) (ds := [d, d]) (n := 2) (fin := f) (by
    simp -implicitDefEqProofs only [aCons_ap, aNil_ap, h1, h2, bind_ok, List.map_cons, List.map_nil]) rfl q
  simp -implicitDefEqProofs only [tNot2_ap, tTru_ap, hc, bind_ok, tru_b, lift_some, Bool.not_true]
theorem ok_lN (l : List Nat) (h : l.length ≤ sz) (n : Nat) : Okd (n + 2) (lN l) := .list (by rw [List.length_map]; exact h) fun d hd => by
  obtain ⟨k, _, rfl⟩ := List.mem_map.mp hd
  exact .int _ _
theorem ok_cD (p : Cl) (n : Nat) : Okd (n + 2) (cD p) := .tup (by show 2 ≤ sz; rw [sz_v]; omega) fun d hd => by
  rcases List.mem_cons.mp hd with rfl | hd
  · exact .int _ _
  · rw [List.mem_singleton] at hd
    rw [hd]
    exact .int _ _
theorem ok_lD (l : List Cl) (h : l.length ≤ sz) (n : Nat) : Okd (n + 3) (lD l) := .list (by rw [List.length_map]; exact h) fun d hd => by
  obtain ⟨k, _, rfl⟩ := List.mem_map.mp hd
  exact ok_cD _ _
theorem rt_len (S E : Gr) (h w : Nat) (ls : List (List Cl)) : (rt S E h w ls).length ≤ ls.length := by
  have := List.length_filter_le (fun k => ((ls.getD k []).filter (bd S E h w)).isEmpty) (List.range ls.length)
  rw [List.length_range] at this
  exact this
theorem wr_len {S E : Gr} {h w : Nat} (p : Ent S E h w) : (wr S E h w).length ≤ 3600 := by
  have h60 := p.s.h2
  have w60 := p.s.w2
  have hb : h * w ≤ 60 * 60 := Nat.mul_le_mul h60 w60
  exact Nat.le_trans (List.length_filter_le _ _) (by rw [sqs_len]; omega)
theorem em_len {S E : Gr} {h w : Nat} (p : Ent S E h w) : (em E h w).length ≤ 3600 := by
  have h60 := p.s.h2
  have w60 := p.s.w2
  have hb : h * w ≤ 60 * 60 := Nat.mul_le_mul h60 w60
  exact Nat.le_trans (List.length_filter_le _ _) (by rw [sqs_len]; omega)
theorem mkD_ok {S E : Gr} {h w : Nat} (p : Ent S E h w) {ls : List (List Cl)} (hl : Lts S h w ls) : Okd 4 (mkD S E h w ls) := by
  have h1 := wr_len p
  have h2 := em_len p
  have h3 := rt_len S E h w ls
  have h4 := hl.n
  refine .tup (by show 3 ≤ sz; rw [sz_v]; omega) fun d hd => ?_
  rcases List.mem_cons.mp hd with rfl | hd
  · exact ok_lD _ (by rw [sz_v]; omega) 0
  · rcases List.mem_cons.mp hd with rfl | hd
    · exact ok_lD _ (by rw [sz_v]; omega) 0
    · rw [List.mem_singleton] at hd
      rw [hd]
      exact ok_lN _ (by rw [sz_v]; omega) 1
theorem marked_i {S E : Gr} {h w : Nat} (p : Ent S E h w) {ls : List (List Cl)} (hl : Lts S h w ls) : ∃ fin, fn_marked [.fr (gD S), .fr (gD E), .fr (ltD ls)] = .ret (mkD S E h w ls) fin := by
  obtain ⟨f1, q1⟩ := check_sol p.s
  obtain ⟨f2, q2⟩ := check_ent p
  obtain ⟨f3, q3⟩ := check_lts p.s hl
  obtain ⟨f4, q4⟩ := marks_i p hl
  generalize mkD S E h w ls = M at *
  refine ⟨[some (.fr (gD S)), some (.fr (gD E)), some (.fr (ltD ls))], ?_⟩
  generalize gD S = s at *
  generalize gD E = t at *
  generalize ltD ls = l at *
  unfold fn_marked
  rw [body_st [some (.fr s), some (.fr t), some (.fr l)]]
  have c1 := gcall (fn := fn_check_solution) (e := [some (.fr s), some (.fr t), some (.fr l)]) (its := aCons (eV 0) aNil) (ds := [s]) (n := 1) rfl rfl q1
  have c2 := gcall (fn := fn_check_entry) (e := [some (.fr s), some (.fr t), some (.fr l)]) (its := aCons (eV 0) (aCons (eV 1) aNil)) (ds := [s, t]) (n := 2) rfl rfl q2
  have c3 := gcall (fn := fn_check_lights) (e := [some (.fr s), some (.fr t), some (.fr l)]) (its := aCons (eV 0) (aCons (eV 2) aNil)) (ds := [s, l]) (n := 2) rfl rfl q3
  have c4 := gcall (fn := fn_marks_of) (e := [some (.fr s), some (.fr t), some (.fr l)]) (its := aCons (eV 0) (aCons (eV 1) (aCons (eV 2) aNil))) (ds := [s, t, l]) (n := 3) rfl rfl q4
  have s1 : sEx (eCall 1 [] fn_check_solution (aCons (eV 0) aNil)) [some (.fr s), some (.fr t), some (.fr l)] = .nx [some (.fr s), some (.fr t), some (.fr l)] := by rw [sEx_ap, c1]; rfl
  have s2 : sEx (eCall 2 [] fn_check_entry (aCons (eV 0) (aCons (eV 1) aNil))) [some (.fr s), some (.fr t), some (.fr l)] = .nx [some (.fr s), some (.fr t), some (.fr l)] := by rw [sEx_ap, c2]; rfl
  have s3 : sEx (eCall 2 [] fn_check_lights (aCons (eV 0) (aCons (eV 2) aNil))) [some (.fr s), some (.fr t), some (.fr l)] = .nx [some (.fr s), some (.fr t), some (.fr l)] := by rw [sEx_ap, c3]; rfl
  rw [seq_step s1, seq_step s2, seq_step s3, sRt_ap, c4]
  rfl
/-! the law's own marks -/
theorem gIn_cD (p : Cl) (l : List Cl) : gIn (cD p) (lD l) = some (.bool (decide (p ∈ l))) := by
  have := gIn_pI ((p.1 : Int), (p.2 : Int)) (l.map fun c => ((c.1 : Int), (c.2 : Int)))
  rw [List.map_map] at this
  refine this.trans (congrArg (fun b => some (PyData.bool b)) (decide_eq_decide.mpr ⟨fun h => ?_, fun h => List.mem_map.mpr ⟨p, h, rfl⟩⟩))
  obtain ⟨q, hq, e⟩ := List.mem_map.mp h
  have h1 : (q.1 : Int) = p.1 := congrArg Prod.fst e
  have h2 : (q.2 : Int) = p.2 := congrArg Prod.snd e
  have : q = p := Prod.ext (by omega) (by omega)
  rw [← this]
  exact hq
theorem nin_dot {a s : Nat} (ha : a < 128) (hs : s < 128) : gNin (ch a) (.tuple [ch 46, ch s]) = some (.bool (!decide (a = 46) && !decide (a = s))) := by
  have := inD_strs_t (x := ⟨#[a]⟩) (ys := [⟨#[46]⟩, ⟨#[s]⟩]) (asc_ch ha) (fun y hy => by
    rcases List.mem_cons.mp hy with rfl | hy
    · exact asc_ch (by omega)
    · rw [List.mem_singleton] at hy
      rw [hy]
      exact asc_ch hs)
  show (inD (ch a) (.tuple [ch 46, ch s])).map _ = _
  have e : inD (ch a) (.tuple [ch 46, ch s]) = some (decide ((⟨#[a]⟩ : Str) ∈ [(⟨#[46]⟩ : Str), ⟨#[s]⟩])) := this
  rw [e, Option.map_some]
  congr 2
  by_cases c1 : a = 46
  · subst c1
    rw [decide_eq_true (List.mem_cons_self (a := (⟨#[46]⟩ : Str)) (l := [⟨#[s]⟩])), decide_eq_true rfl]
    rfl
  · by_cases c2 : a = s
    · subst c2
      rw [decide_eq_true (List.mem_cons_of_mem (⟨#[46]⟩ : Str) (List.mem_singleton.mpr rfl)), decide_eq_true (p := a = a) rfl, Bool.not_true, Bool.and_false]
    · have hno : ¬ (⟨#[a]⟩ : Str) ∈ [(⟨#[46]⟩ : Str), ⟨#[s]⟩] := fun z => by
        rcases List.mem_cons.mp z with z | z
        · exact c1 (ch_inj.mp z)
        · exact c2 (ch_inj.mp (List.mem_singleton.mp z))
      rw [decide_eq_false hno, decide_eq_false c1, decide_eq_false c2]
      rfl
def Iq (S E : Gr) (lt : PyData) (w : Nat) (i : Nat) (e : Ev) : Prop := ∃ a4, e = [some (.fr (gD S)), some (.fr (gD E)), some (.fr lt), some (.fr (lD (sqs i w))), a4, none, none, none, none, none, none]
theorem lm_sq {S E : Gr} {h w : Nat} (p : Ent S E h w) (lt : PyData) : ∃ a4, sFor (iL rng1 (lCons (eL gLen (lCons (eV 0) lNil)) lNil)) (uN 4) lp_law_marked_0 [some (.fr (gD S)), some (.fr (gD E)), some (.fr lt), some (.fr (lD [])), none, none, none, none, none, none, none] = .nx [some (.fr (gD S)), some (.fr (gD E)), some (.fr lt), some (.fr (lD (sqs h w))), a4, none, none, none, none, none, none] := by
  have h60 := p.s.h2
  have w60 := p.s.w2
  have h1 := p.s.h1
  have hlS := p.s.len
  have hiS : gIx (gD S) (.int 0) = some (tD (S.getD 0 [])) := p.s.ix (r := 0) (by omega)
  have hwS := p.s.len2 (r := 0) (by omega)
  have hrg : rng1 [.int (h : Nat)] = some (rngL 0 (h : Nat)) := rng1_i (by omega) (by omega)
  have hrw : rng1 [.int (w : Nat)] = some (rngL 0 (w : Nat)) := rng1_i (by omega) (by omega)
  have hz : (rngL 0 (w : Nat)).length ≤ sz := by rw [rngL_len, sz_v]; omega
  have h2s : (2 : Nat) ≤ sz := by rw [sz_v]; omega
  obtain ⟨e', q, a4, rfl⟩ := for_go (u := uN 4) (g := lp_law_marked_0) (gd := iN) (Iq S E lt w) (l := List.range h) (e := [some (.fr (gD S)), some (.fr (gD E)), some (.fr lt), some (.fr (lD [])), none, none, none, none, none, none, none])
    (fun i d e hd ⟨a4, he⟩ => by
      subst he
      have hil := (List.getElem?_eq_some_iff.mp hd).1
      rw [List.length_range] at hil
      have : d = i := by
        rw [List.getElem?_range hil] at hd
        exact (Option.some.inj hd).symm
      subst this
      refine ⟨[(4, iN d)], rfl, ?_⟩
      show (lp_law_marked_0 [some (.fr (gD S)), some (.fr (gD E)), some (.fr lt), some (.fr (lD (sqs d w))), some (.fr (iN d)), none, none, none, none, none, none]).go _
      have hb : d * w ≤ 60 * 60 := Nat.mul_le_mul (by omega) w60
      have hadd : gAdd (lD (sqs d w)) (lD (row w d)) = some (lD (sqs (d + 1) w)) := by
        rw [gAdd_l (by rw [List.length_map, List.length_map, sqs_len, List.length_map, List.length_range, sz_v]; omega), ← List.map_append, sqs_succ]
        rfl
      have c1 : compL (uN 10) tT (eTup (lCons (eV 4) (lCons (eV 10) lNil))) [10] (rngL 0 (w : Nat)) [some (.fr (gD S)), some (.fr (gD E)), some (.fr lt), some (.fr (lD (sqs d w))), some (.fr (iN d)), none, none, none, none, none, none] = .ok ((row w d).map cD) [some (.fr (gD S)), some (.fr (gD E)), some (.fr lt), some (.fr (lD (sqs d w))), some (.fr (iN d)), none, none, none, none, none, none] := by
        rw [rngL_0, show (row w d).map cD = (List.range w).map fun c => cD (d, c) from List.map_map]
        exact comp_m (g := iN) (y := fun c => cD (d, c)) (List.range w) fun c hc => ⟨[(10, iN c)], rfl, by
          simp -implicitDefEqProofs only [setEv_cons, setEv_nil, List.set_cons_succ, List.set_cons_zero, eTup_ap, lCons_ap, lNil_ap, eV_ap, List.getElem?_cons_succ, List.getElem?_cons_zero, getD_fr, bind_ok, List.length_cons, List.length_nil, Nat.zero_add, h2s, if_true, gets_ok, wipe_cons, wipe_nil, true_and]⟩
      unfold lp_law_marked_0
      simp -implicitDefEqProofs only [sSt_ap, e2_ap, eComp_ap, iL_ap, lCons_ap, lNil_ap, eL_ap, eV_ap, eC_ap, List.getElem?_cons_succ, List.getElem?_cons_zero, getD_fr, bind_ok, hiS, hwS, lift_some, hrw, hz, if_true, wipe_cons, wipe_nil, List.set_cons_succ, List.set_cons_zero, c1, rest_cons, rest_nil, frO_none, hadd, out_ok, go_nx]
      exact ⟨_, rfl⟩) ⟨none, rfl⟩
  rw [List.length_range, show (List.range h).map iN = rngL 0 (h : Nat) from (rngL_0 h).symm] at q
  refine ⟨a4, ?_⟩
  simp -implicitDefEqProofs only [sFor_ap, iL_ap, lCons_ap, lNil_ap, eL_ap, eV_ap, List.getElem?_cons_succ, List.getElem?_cons_zero, getD_fr, bind_ok, hlS, lift_some, hrg, out_ok, q]
theorem lmarked_i {S E : Gr} {h w : Nat} (p : Ent S E h w) {ls : List (List Cl)} (hl : Lts S h w ls) : ∃ fin, fn_law_marked [.fr (gD S), .fr (gD E), .fr (ltD ls)] = .ret (mkD S E h w ls) fin := by
  have h60 := p.s.h2
  have w60 := p.s.w2
  have hb : h * w ≤ 60 * 60 := Nat.mul_le_mul h60 w60
  have h0s : (0 : Nat) ≤ sz := Nat.zero_le _
  have h2s : (2 : Nat) ≤ sz := by rw [sz_v]; omega
  have h3s : (3 : Nat) ≤ sz := by rw [sz_v]; omega
  obtain ⟨a4, st2⟩ := lm_sq p (ltD ls)
  have hzq : ((sqs h w).map cD).length ≤ sz := by rw [List.length_map, sqs_len, sz_v]; omega
  have st1 : sSt 3 (eList lNil) [some (.fr (gD S)), some (.fr (gD E)), some (.fr (ltD ls)), none, none, none, none, none, none, none, none] = .nx [some (.fr (gD S)), some (.fr (gD E)), some (.fr (ltD ls)), some (.fr (lD [])), none, none, none, none, none, none, none] := rfl
  have c3 : compL (uN 8) (t2 gNin (e2 gIx (e2 gIx (eV 1) (e2 gIx (eV 8) (eC (.int 0)))) (e2 gIx (eV 8) (eC (.int 1)))) (eTup (lCons (eC (.str ("." : Str))) (lCons (e2 gIx (e2 gIx (eV 0) (e2 gIx (eV 8) (eC (.int 0)))) (e2 gIx (eV 8) (eC (.int 1)))) lNil)))) (eV 8) [8] ((sqs h w).map cD) [some (.fr (gD S)), some (.fr (gD E)), some (.fr (ltD ls)), some (.fr (lD (sqs h w))), a4, none, none, none, none, none, none] = .ok ((wr S E h w).map cD) [some (.fr (gD S)), some (.fr (gD E)), some (.fr (ltD ls)), some (.fr (lD (sqs h w))), a4, none, none, none, none, none, none] := by
    refine comp_fm (g := cD) (y := cD) (p := fW S E) _ fun c hc => ⟨[(8, cD c)], rfl, ?_⟩
    obtain ⟨hc1, hc2⟩ := sqs_mem.mp hc
    have i0 : gIx (cD c) (.int 0) = some (.int c.1) := rfl
    have i1 : gIx (cD c) (.int 1) = some (.int c.2) := rfl
    have hxE := p.e.ix hc1
    have hxS := p.s.ix hc1
    have hyE := p.e.ix2 hc1 hc2
    have hyS := p.s.ix2 hc1 hc2
    have hn := nin_dot (csE_lt _ (p.e.at hc1 hc2)) (csS_lt _ (p.s.at hc1 hc2))
    have hf : (!decide (at2 E c.1 c.2 = 46) && !decide (at2 E c.1 c.2 = at2 S c.1 c.2)) = fW S E c := rfl
    simp -implicitDefEqProofs only [setEv_cons, setEv_nil, List.set_cons_succ, List.set_cons_zero, t2_ap, e2_ap, eTup_ap, lCons_ap, lNil_ap, eV_ap, eC_ap, dot_ch, List.getElem?_cons_succ, List.getElem?_cons_zero, getD_fr, bind_ok, i0, i1, hxE, hxS, hyE, hyS, lift_some, List.length_cons, List.length_nil, Nat.zero_add, h2s, if_true, hn, toB_b, gets_ok, wipe_cons, wipe_nil, hf, true_and, implies_true, and_self]
  have c4 : compL (uN 8) (t2 gEq (e2 gIx (e2 gIx (eV 1) (e2 gIx (eV 8) (eC (.int 0)))) (e2 gIx (eV 8) (eC (.int 1)))) (eC (.str ("." : Str)))) (eV 8) [8] ((sqs h w).map cD) [some (.fr (gD S)), some (.fr (gD E)), some (.fr (ltD ls)), some (.fr (lD (sqs h w))), a4, some (.fr (lD (wr S E h w))), none, none, none, none, none] = .ok ((em E h w).map cD) [some (.fr (gD S)), some (.fr (gD E)), some (.fr (ltD ls)), some (.fr (lD (sqs h w))), a4, some (.fr (lD (wr S E h w))), none, none, none, none, none] := by
    refine comp_fm (g := cD) (y := cD) (p := fE E) _ fun c hc => ⟨[(8, cD c)], rfl, ?_⟩
    obtain ⟨hc1, hc2⟩ := sqs_mem.mp hc
    have i0 : gIx (cD c) (.int 0) = some (.int c.1) := rfl
    have i1 : gIx (cD c) (.int 1) = some (.int c.2) := rfl
    have hxE := p.e.ix hc1
    have hyE := p.e.ix2 hc1 hc2
    have hn := gEq_ch (a := at2 E c.1 c.2) (b := 46) (csE_lt _ (p.e.at hc1 hc2)) (by omega)
    have hf : decide (at2 E c.1 c.2 = 46) = fE E c := rfl
    simp -implicitDefEqProofs only [setEv_cons, setEv_nil, List.set_cons_succ, List.set_cons_zero, t2_ap, e2_ap, eV_ap, eC_ap, dot_ch, List.getElem?_cons_succ, List.getElem?_cons_zero, getD_fr, bind_ok, i0, i1, hxE, hyE, lift_some, hn, toB_b, gets_ok, wipe_cons, wipe_nil, hf, true_and, implies_true, and_self]
  have st3 : sSt 5 (eComp (itm (eV 3)) (uN 8) (t2 gNin (e2 gIx (e2 gIx (eV 1) (e2 gIx (eV 8) (eC (.int 0)))) (e2 gIx (eV 8) (eC (.int 1)))) (eTup (lCons (eC (.str ("." : Str))) (lCons (e2 gIx (e2 gIx (eV 0) (e2 gIx (eV 8) (eC (.int 0)))) (e2 gIx (eV 8) (eC (.int 1)))) lNil)))) (eV 8) [8]) [some (.fr (gD S)), some (.fr (gD E)), some (.fr (ltD ls)), some (.fr (lD (sqs h w))), a4, none, none, none, none, none, none] = .nx [some (.fr (gD S)), some (.fr (gD E)), some (.fr (ltD ls)), some (.fr (lD (sqs h w))), a4, some (.fr (lD (wr S E h w))), none, none, none, none, none] := by
    simp -implicitDefEqProofs only [sSt_ap, eComp_ap, itm_ap, eV_ap, List.getElem?_cons_succ, List.getElem?_cons_zero, getD_fr, bind_ok, items_l, lift_some, hzq, if_true, wipe_cons, wipe_nil, List.set_cons_succ, List.set_cons_zero, c3, rest_cons, rest_nil, frO_none, out_ok]
  have st4 : sSt 6 (eComp (itm (eV 3)) (uN 8) (t2 gEq (e2 gIx (e2 gIx (eV 1) (e2 gIx (eV 8) (eC (.int 0)))) (e2 gIx (eV 8) (eC (.int 1)))) (eC (.str ("." : Str)))) (eV 8) [8]) [some (.fr (gD S)), some (.fr (gD E)), some (.fr (ltD ls)), some (.fr (lD (sqs h w))), a4, some (.fr (lD (wr S E h w))), none, none, none, none, none] = .nx [some (.fr (gD S)), some (.fr (gD E)), some (.fr (ltD ls)), some (.fr (lD (sqs h w))), a4, some (.fr (lD (wr S E h w))), some (.fr (lD (em E h w))), none, none, none, none] := by
    simp -implicitDefEqProofs only [sSt_ap, eComp_ap, itm_ap, eV_ap, List.getElem?_cons_succ, List.getElem?_cons_zero, getD_fr, bind_ok, items_l, lift_some, hzq, if_true, wipe_cons, wipe_nil, List.set_cons_succ, List.set_cons_zero, c4, rest_cons, rest_nil, frO_none, out_ok]
  have hlL := gLen_m lD ls
  have hn := hl.n
  have hrl : rng1 [.int (ls.length : Nat)] = some (rngL 0 (ls.length : Nat)) := rng1_i (by omega) (by omega)
  have hzl : (rngL 0 (ls.length : Nat)).length ≤ sz := by rw [rngL_len, sz_v]; omega
  have c5 : compL (uN 9) (t2 gEq (eL gLen (lCons (eComp (itm (e2 gIx (eV 2) (eV 9))) (uN 8) (tOr2 (t2 gIn (eV 8) (eV 5)) (t2 gIn (eV 8) (eV 6))) (eV 8) [8]) lNil)) (eC (.int 0))) (eV 9) [9] (rngL 0 (ls.length : Nat)) [some (.fr (gD S)), some (.fr (gD E)), some (.fr (ltD ls)), some (.fr (lD (sqs h w))), a4, some (.fr (lD (wr S E h w))), some (.fr (lD (em E h w))), none, none, none, none] = .ok ((rt S E h w ls).map iN) [some (.fr (gD S)), some (.fr (gD E)), some (.fr (ltD ls)), some (.fr (lD (sqs h w))), a4, some (.fr (lD (wr S E h w))), some (.fr (lD (em E h w))), none, none, none, none] := by
    rw [rngL_0]
    refine comp_fm (g := iN) (y := iN) (p := fun k => ((ls.getD k []).filter (bd S E h w)).isEmpty) _ fun k hk => ⟨[(9, iN k)], rfl, ?_⟩
    have hk := List.mem_range.mp hk
    have hix := gIx_m lD (l := ls) (i := k) [] hk
    have hlk := (hl.l _ (getD_mem (d := []) hk)).2.1
    have hzk : ((ls.getD k []).map cD).length ≤ sz := by rw [List.length_map, sz_v]; omega
    have cc : compL (uN 8) (tOr2 (t2 gIn (eV 8) (eV 5)) (t2 gIn (eV 8) (eV 6))) (eV 8) [8] ((ls.getD k []).map cD) [some (.fr (gD S)), some (.fr (gD E)), some (.fr (ltD ls)), some (.fr (lD (sqs h w))), a4, some (.fr (lD (wr S E h w))), some (.fr (lD (em E h w))), none, none, some (.fr (iN k)), none] = .ok (((ls.getD k []).filter (bd S E h w)).map cD) [some (.fr (gD S)), some (.fr (gD E)), some (.fr (ltD ls)), some (.fr (lD (sqs h w))), a4, some (.fr (lD (wr S E h w))), some (.fr (lD (em E h w))), none, none, some (.fr (iN k)), none] := by
      refine comp_fm (g := cD) (y := cD) (p := bd S E h w) _ fun c hc => ⟨[(8, cD c)], rfl, ?_⟩
      have g1 := gIn_cD c (wr S E h w)
      have g2 := gIn_cD c (em E h w)
      have hf : bd S E h w c = (decide (c ∈ wr S E h w) || decide (c ∈ em E h w)) := rfl
      rw [hf]
      cases q1 : decide (c ∈ wr S E h w) with
      | true =>
        rw [q1] at g1
        simp -implicitDefEqProofs only [setEv_cons, setEv_nil, List.set_cons_succ, List.set_cons_zero, tOr2_ap, t2_ap, e2_ap, eV_ap, List.getElem?_cons_succ, List.getElem?_cons_zero, getD_fr, bind_ok, g1, lift_some, toB_b, if_true, Bool.true_or, gets_ok, wipe_cons, wipe_nil, true_and, implies_true, and_self]
      | false =>
        rw [q1] at g1
        simp -implicitDefEqProofs only [setEv_cons, setEv_nil, List.set_cons_succ, List.set_cons_zero, tOr2_ap, t2_ap, e2_ap, eV_ap, List.getElem?_cons_succ, List.getElem?_cons_zero, getD_fr, bind_ok, g1, g2, lift_some, toB_b, Bool.false_eq_true, if_false, Bool.false_or, gets_ok, wipe_cons, wipe_nil, true_and, implies_true, and_self]
    have hll := gLen_m cD ((ls.getD k []).filter (bd S E h w))
    have hq : decide (((((ls.getD k []).filter (bd S E h w)).length : Nat) : Int) = 0) = ((ls.getD k []).filter (bd S E h w)).isEmpty := by
      cases (ls.getD k []).filter (bd S E h w) with
      | nil => rfl
      | cons a l =>
        rw [decide_eq_false (by rw [List.length_cons]; omega)]
        rfl
    simp -implicitDefEqProofs only [setEv_cons, setEv_nil, List.set_cons_succ, List.set_cons_zero, t2_ap, e2_ap, eL_ap, lCons_ap, lNil_ap, eComp_ap, itm_ap, eV_ap, eC_ap, List.getElem?_cons_succ, List.getElem?_cons_zero, getD_fr, bind_ok, hix, lift_some, items_l, hzk, if_true, wipe_cons, wipe_nil, cc, rest_cons, rest_nil, frO_none, hll, gEq_i, hq, toB_b, gets_ok, true_and, implies_true, and_self]
  have st5 : sSt 7 (eComp (iL rng1 (lCons (eL gLen (lCons (eV 2) lNil)) lNil)) (uN 9) (t2 gEq (eL gLen (lCons (eComp (itm (e2 gIx (eV 2) (eV 9))) (uN 8) (tOr2 (t2 gIn (eV 8) (eV 5)) (t2 gIn (eV 8) (eV 6))) (eV 8) [8]) lNil)) (eC (.int 0))) (eV 9) [9]) [some (.fr (gD S)), some (.fr (gD E)), some (.fr (ltD ls)), some (.fr (lD (sqs h w))), a4, some (.fr (lD (wr S E h w))), some (.fr (lD (em E h w))), none, none, none, none] = .nx [some (.fr (gD S)), some (.fr (gD E)), some (.fr (ltD ls)), some (.fr (lD (sqs h w))), a4, some (.fr (lD (wr S E h w))), some (.fr (lD (em E h w))), some (.fr (lN (rt S E h w ls))), none, none, none] := by
    simp -implicitDefEqProofs only [sSt_ap, eComp_ap, iL_ap, lCons_ap, lNil_ap, eL_ap, eV_ap, List.getElem?_cons_succ, List.getElem?_cons_zero, getD_fr, bind_ok, hlL, lift_some, hrl, hzl, if_true, wipe_cons, wipe_nil, List.set_cons_succ, List.set_cons_zero, c5, rest_cons, rest_nil, frO_none, out_ok]
  refine ⟨[some (.fr (gD S)), some (.fr (gD E)), some (.fr (ltD ls)), some (.fr (lD (sqs h w))), a4, some (.fr (lD (wr S E h w))), some (.fr (lD (em E h w))), some (.fr (lN (rt S E h w ls))), none, none, none], ?_⟩
  unfold fn_law_marked mkD
  rw [body_st [some (.fr (gD S)), some (.fr (gD E)), some (.fr (ltD ls)), none, none, none, none, none, none, none, none], seq_step st1, seq_step st2, seq_step st3, seq_step st4, seq_step st5]
  simp -implicitDefEqProofs only [sRt_ap, eTup_ap, lCons_ap, lNil_ap, eV_ap, List.getElem?_cons_succ, List.getElem?_cons_zero, getD_fr, bind_ok, List.length_cons, List.length_nil, Nat.zero_add, h3s, if_true, out_ok, fr_rt]
end Lw

set_option Elab.async false
set_option linter.all false
set_option maxRecDepth 100000
set_option maxHeartbeats 4000000
set_option autoImplicit false
namespace Lw
open PySem PySem.Spec L2 Ly
abbrev Q4 := PySem.W.T4 Int Int Int Int
abbrev qD (t : Q4) : PyData := .tuple [.int t.a, .int t.b, .int t.c, .int t.d]
theorem dpt_qD (t : Q4) : Dpt 1 (qD t) := dpt_tup fun d hd => by
  rcases List.mem_cons.mp hd with rfl | hd
  · exact dpt_int 0 _
  · rcases List.mem_cons.mp hd with rfl | hd
    · exact dpt_int 0 _
    · rcases List.mem_cons.mp hd with rfl | hd
      · exact dpt_int 0 _
      · rw [List.mem_singleton] at hd
        rw [hd]
        exact dpt_int 0 _
theorem map_of {α β : Type} (f : α → β) : ∀ l : List β, (∀ b ∈ l, ∃ a, f a = b) → ∃ m : List α, m.map f = l
  | [], _ => ⟨[], rfl⟩
  | b :: l, h => by
    obtain ⟨a, ha⟩ := h b List.mem_cons_self
    obtain ⟨m, hm⟩ := map_of f l fun b hb => h b (List.mem_cons_of_mem _ hb)
    exact ⟨a :: m, by rw [List.map_cons, ha, hm]⟩
theorem sort_q (xs : List Q4) : ∃ m : List Q4, gSortX [.list (xs.map qD)] = some (.list (m.map qD)) ∧ m.length = xs.length := by
  have hdl : ∀ d ∈ xs.map qD, Dpt 1 d := fun d h => by
    obtain ⟨x, hx, rfl⟩ := List.mem_map.mp h
    exact dpt_qD x
  have hp := List.mergeSort_perm (xs.map qD) dle
  obtain ⟨m, hm⟩ := map_of qD (sortD (xs.map qD)) fun d hd => by
    obtain ⟨x, _, e⟩ := List.mem_map.mp (hp.mem_iff.mp hd)
    exact ⟨x, e⟩
  have hl : m.length = xs.length := by
    have h1 := hp.length_eq
    have h2 : (sortD (xs.map qD)).length = (xs.map qD).length := h1
    rw [← hm, List.length_map, List.length_map] at h2
    exact h2
  refine ⟨m, ?_, hl⟩
  rw [hm]
  cases xs with
  | nil =>
    have e : sortD ([] : List PyData) = [] := List.mergeSort_nil
    show gSortX [.list (([] : List Str).map .str)] = some (.list (sortD []))
    rw [e, gSortX_s]
    rfl
  | cons x xs =>
    refine gSortX_D rfl ((dpt_list hdl).shaped (by omega)) (alikeL_mk fun a ha b hb => ?_) ?_ fun d h => ?_
    · obtain ⟨y, _, rfl⟩ := List.mem_map.mp ha
      obtain ⟨z, _, rfl⟩ := List.mem_map.mp hb
      exact PySem.W.DatumOrd.alike (α := Q4) y z
    · unfold sortable
      rw [List.all_eq_true.mpr fun d h => ?_, Bool.true_or]
      obtain ⟨y, _, rfl⟩ := List.mem_map.mp h
      rfl
    · have := (hdl d h).2
      omega
abbrev esD (Es : List Gr) : PyData := .list (Es.map gD)
def key (S : Gr) (h w : Nat) (ls : List (List Cl)) (Es : List Gr) (k : Nat) : Q4 := ⟨-((rt S (Es.getD k []) h w ls).length : Nat), ((wr S (Es.getD k []) h w).length : Nat), ((em (Es.getD k []) h w).length : Nat), (k : Nat)⟩
def keys (S : Gr) (h w : Nat) (ls : List (List Cl)) (Es : List Gr) (k : Nat) : List Q4 := (List.range k).map (key S h w ls Es)
theorem keys_succ (S : Gr) (h w : Nat) (ls : List (List Cl)) (Es : List Gr) (k : Nat) : keys S h w ls Es (k + 1) = keys S h w ls Es k ++ [key S h w ls Es k] := by
  unfold keys
  rw [List.range_succ, List.map_append]
  rfl
theorem keys_len (S : Gr) (h w : Nat) (ls : List (List Cl)) (Es : List Gr) (k : Nat) : (keys S h w ls Es k).length = k := by
  unfold keys
  rw [List.length_map, List.length_range]
abbrev oQ (l : List Q4) : O := .nd .lst ((l.map qD).map .fr)
theorem oQ_snoc (l : List Q4) (x : Q4) : oQ (l ++ [x]) = .nd .lst ((l.map qD ++ [qD x]).map .fr) := by
  show O.nd .lst (((l ++ [x]).map qD).map .fr) = _
  rw [List.map_append]
  rfl
section
variable {S : Gr} {h w : Nat} {ls : List (List Cl)} {Es : List Gr}
def Io (S : Gr) (h w : Nat) (ls : List (List Cl)) (Es : List Gr) (a3 : Option O) (k : Nat) (e : Ev) : Prop := ∃ a5 a6 a7 a8, e = [some (.fr (gD S)), some (.fr (esD Es)), some (.fr (ltD ls)), a3, some (oQ (keys S h w ls Es k)), a5, a6, a7, a8, none]
theorem or_1 (hE : ∀ E ∈ Es, Ent S E h w) (hn : Es.length ≤ 200) (hl : Lts S h w ls) {a3 : Option O} (k d : Nat) (e : Ev) (hd : (List.range Es.length)[k]? = some d) (hI : Io S h w ls Es a3 k e) : ∃ as, uN 5 (iN d) = some as ∧ (lp_order_of_entries_1 (setEv e as)).go (Io S h w ls Es a3 (k + 1)) := by
  obtain ⟨a5, a6, a7, a8, rfl⟩ := hI
  have hkl := (List.getElem?_eq_some_iff.mp hd).1
  rw [List.length_range] at hkl
  have : d = k := by
    rw [List.getElem?_range hkl] at hd
    exact (Option.some.inj hd).symm
  subst this
  refine ⟨[(5, iN d)], rfl, ?_⟩
  show (lp_order_of_entries_1 [some (.fr (gD S)), some (.fr (esD Es)), some (.fr (ltD ls)), a3, some (oQ (keys S h w ls Es d)), some (.fr (iN d)), a6, a7, a8, none]).go _
  have hEm := getD_mem (d := []) hkl
  obtain ⟨f, q⟩ := marks_i (hE _ hEm) hl
  have hix := gIx_m gD (l := Es) (i := d) [] hkl
  have hlW := gLen_m cD (wr S (Es.getD d []) h w)
  have hlM := gLen_m cD (em (Es.getD d []) h w)
  have hlR := gLen_m iN (rt S (Es.getD d []) h w ls)
  have hk : key S h w ls Es d = ⟨-((rt S (Es.getD d []) h w ls).length : Nat), ((wr S (Es.getD d []) h w).length : Nat), ((em (Es.getD d []) h w).length : Nat), (d : Nat)⟩ := rfl
  have hkl2 := keys_len S h w ls Es d
  unfold Io
  rw [keys_succ, hk]
  unfold mkD at q
  generalize keys S h w ls Es d = K at *
  generalize wr S (Es.getD d []) h w = W at *
  generalize em (Es.getD d []) h w = M at *
  generalize rt S (Es.getD d []) h w ls = R at *
  have hc := gcall (fn := fn_marks_of) (e := [some (.fr (gD S)), some (.fr (esD Es)), some (.fr (ltD ls)), a3, some (oQ K), some (.fr (iN d)), a6, a7, a8, none]) (its := aCons (eV 0) (aCons (e2 gIx (eV 1) (eV 5)) (aCons (eV 2) aNil))) (ds := [gD S, gD (Es.getD d []), ltD ls]) (n := 3) (e1 := [some (.fr (gD S)), some (.fr (esD Es)), some (.fr (ltD ls)), a3, some (oQ K), some (.fr (iN d)), a6, a7, a8, none]) (by
    simp -implicitDefEqProofs only [aCons_ap, aNil_ap, e2_ap, eV_ap, List.getElem?_cons_succ, List.getElem?_cons_zero, getD_fr, bind_ok, hix, lift_some, List.map_cons, List.map_nil]) rfl q
  have st1 : sUp (uT 3 (usC (uN 6) (usC (uN 7) (usC (uN 8) usN)))) (eCall 3 [] fn_marks_of (aCons (eV 0) (aCons (e2 gIx (eV 1) (eV 5)) (aCons (eV 2) aNil)))) [some (.fr (gD S)), some (.fr (esD Es)), some (.fr (ltD ls)), a3, some (oQ K), some (.fr (iN d)), a6, a7, a8, none] = .nx [some (.fr (gD S)), some (.fr (esD Es)), some (.fr (ltD ls)), a3, some (oQ K), some (.fr (iN d)), some (.fr (lD W)), some (.fr (lD M)), some (.fr (lN R)), none] := by
    rw [sUp_ap, hc]
    rfl
  have h4s : (4 : Nat) ≤ sz := by rw [sz_v]; omega
  unfold lp_order_of_entries_1
  rw [seq_step st1]
  rw [sApp_at (i := 4) (xs := K.map qD) (d := qD ⟨-(R.length : Nat), (W.length : Nat), (M.length : Nat), (d : Nat)⟩) rfl (by
    simp -implicitDefEqProofs only [eTup_ap, lCons_ap, lNil_ap, e1_ap, eL_ap, eV_ap, List.getElem?_cons_succ, List.getElem?_cons_zero, getD_fr, bind_ok, hlR, hlW, hlM, gNeg_i, lift_some, List.length_cons, List.length_nil, Nat.zero_add, h4s, if_true]) (by rw [List.length_map, hkl2, sz_v]; omega), go_nx]
  exact ⟨some (.fr (iN d)), some (.fr (lD W)), some (.fr (lD M)), some (.fr (lN R)), by rw [oQ_snoc]; rfl⟩
theorem order_i (hE : ∀ E ∈ Es, Ent S E h w) (hS : Shp S h w csS) (h1 : 1 ≤ Es.length) (hn : Es.length ≤ 200) (hl : Lts S h w ls) {m : List Q4} (hm : gSortX [.list ((keys S h w ls Es Es.length).map qD)] = some (.list (m.map qD))) (hml : m.length ≤ sz) : ∃ fin, fn_order_of_entries [.fr (gD S), .fr (esD Es), .fr (ltD ls)] = .ret (.list (m.map fun t => .int t.d)) fin := by
  have hlE := gLen_m gD Es
  have d1 : decide ((1 : Int) ≤ (Es.length : Nat)) = true := decide_eq_true (by omega)
  have d2 : decide (((Es.length : Nat) : Int) ≤ 200) = true := decide_eq_true (by omega)
  have hrg : rng1 [.int (Es.length : Nat)] = some (rngL 0 (Es.length : Nat)) := rng1_i (by omega) (by omega)
  obtain ⟨f1, q1⟩ := check_sol hS
  obtain ⟨f3, q3⟩ := check_lts hS hl
  have c1 := gcall (fn := fn_check_solution) (e := [some (.fr (gD S)), some (.fr (esD Es)), some (.fr (ltD ls)), none, none, none, none, none, none, none]) (its := aCons (eV 0) aNil) (ds := [gD S]) (n := 1) rfl rfl q1
  have s1 : sEx (eCall 1 [] fn_check_solution (aCons (eV 0) aNil)) [some (.fr (gD S)), some (.fr (esD Es)), some (.fr (ltD ls)), none, none, none, none, none, none, none] = .nx [some (.fr (gD S)), some (.fr (esD Es)), some (.fr (ltD ls)), none, none, none, none, none, none, none] := by rw [sEx_ap, c1]; rfl
  have s2 : sIf (tOr2 (tNot2 (tTru (eIsi .list (eV 1)))) (tNot2 (tB2 (eCh gLe gLe (eC (.int 1)) (eL gLen (lCons (eV 1) lNil)) (eC (.int 200)))))) (sRaise ("BadPuzzle" : Str)) sNx [some (.fr (gD S)), some (.fr (esD Es)), some (.fr (ltD ls)), none, none, none, none, none, none, none] = .nx [some (.fr (gD S)), some (.fr (esD Es)), some (.fr (ltD ls)), none, none, none, none, none, none, none] := by
    simp -implicitDefEqProofs only [sIf_ap, tOr2_ap, tNot2_ap, tTru_ap, tB2_ap, eCh_ap, eL_ap, lCons_ap, lNil_ap, eC_ap, eIsi_ap, eV_ap, List.getElem?_cons_succ, List.getElem?_cons_zero, getD_fr, bind_ok, isi_listl, tru_b, lift_some, Bool.not_true, Bool.false_eq_true, if_false, hlE, gLe_i, d1, d2, toB_b, if_true, out_ok, sNx_ap]
  obtain ⟨e3, g3, a3, rfl⟩ := for_inv (u := uN 3) (g := lp_order_of_entries_0) (fun e => ∃ a3, e = [some (.fr (gD S)), some (.fr (esD Es)), some (.fr (ltD ls)), a3, none, none, none, none, none, none]) (ds := Es.map gD) (e := [some (.fr (gD S)), some (.fr (esD Es)), some (.fr (ltD ls)), none, none, none, none, none, none, none])
    (fun d hd e ⟨a3, he⟩ => by
      subst he
      obtain ⟨E, hEm, rfl⟩ := List.mem_map.mp hd
      refine ⟨[(3, gD E)], rfl, ?_⟩
      show (lp_order_of_entries_0 [some (.fr (gD S)), some (.fr (esD Es)), some (.fr (ltD ls)), some (.fr (gD E)), none, none, none, none, none, none]).go _
      obtain ⟨f2, q2⟩ := check_ent (hE E hEm)
      have c2 := gcall (fn := fn_check_entry) (e := [some (.fr (gD S)), some (.fr (esD Es)), some (.fr (ltD ls)), some (.fr (gD E)), none, none, none, none, none, none]) (its := aCons (eV 0) (aCons (eV 3) aNil)) (ds := [gD S, gD E]) (n := 2) rfl rfl q2
      unfold lp_order_of_entries_0
      rw [sEx_ap, c2]
      exact ⟨_, rfl⟩) ⟨none, rfl⟩
  have s3 : sFor (itm (eV 1)) (uN 3) lp_order_of_entries_0 [some (.fr (gD S)), some (.fr (esD Es)), some (.fr (ltD ls)), none, none, none, none, none, none, none] = .nx [some (.fr (gD S)), some (.fr (esD Es)), some (.fr (ltD ls)), a3, none, none, none, none, none, none] := by
    simp -implicitDefEqProofs only [sFor_ap, itm_ap, eV_ap, List.getElem?_cons_succ, List.getElem?_cons_zero, getD_fr, bind_ok, items_l, lift_some, out_ok, g3]
  have c4 := gcall (fn := fn_check_lights) (e := [some (.fr (gD S)), some (.fr (esD Es)), some (.fr (ltD ls)), a3, none, none, none, none, none, none]) (its := aCons (eV 0) (aCons (eV 2) aNil)) (ds := [gD S, ltD ls]) (n := 2) rfl rfl q3
  have s4 : sEx (eCall 2 [] fn_check_lights (aCons (eV 0) (aCons (eV 2) aNil))) [some (.fr (gD S)), some (.fr (esD Es)), some (.fr (ltD ls)), a3, none, none, none, none, none, none] = .nx [some (.fr (gD S)), some (.fr (esD Es)), some (.fr (ltD ls)), a3, none, none, none, none, none, none] := by rw [sEx_ap, c4]; rfl
  have s5 : sStL 4 lNil [some (.fr (gD S)), some (.fr (esD Es)), some (.fr (ltD ls)), a3, none, none, none, none, none, none] = .nx [some (.fr (gD S)), some (.fr (esD Es)), some (.fr (ltD ls)), a3, some (oQ []), none, none, none, none, none] := by
    rw [sStL_ap, lNil_ap, out_ok, if_pos (show ([] : List PyData).length ≤ sz from Nat.zero_le _)]; rfl
  obtain ⟨e6, g6, a5, a6, a7, a8, rfl⟩ := for_go (u := uN 5) (g := lp_order_of_entries_1) (gd := iN) (Io S h w ls Es a3) (l := List.range Es.length) (e := [some (.fr (gD S)), some (.fr (esD Es)), some (.fr (ltD ls)), a3, some (oQ []), none, none, none, none, none])
    (fun k d e hd hI => or_1 hE hn hl k d e hd hI) ⟨none, none, none, none, rfl⟩
  rw [List.length_range, show (List.range Es.length).map iN = rngL 0 (Es.length : Nat) from (rngL_0 Es.length).symm] at g6
  have s6 : sFor (iL rng1 (lCons (eL gLen (lCons (eV 1) lNil)) lNil)) (uN 5) lp_order_of_entries_1 [some (.fr (gD S)), some (.fr (esD Es)), some (.fr (ltD ls)), a3, some (oQ []), none, none, none, none, none] = .nx [some (.fr (gD S)), some (.fr (esD Es)), some (.fr (ltD ls)), a3, some (oQ (keys S h w ls Es Es.length)), a5, a6, a7, a8, none] := by
    simp -implicitDefEqProofs only [sFor_ap, iL_ap, lCons_ap, lNil_ap, eL_ap, eV_ap, List.getElem?_cons_succ, List.getElem?_cons_zero, getD_fr, bind_ok, hlE, lift_some, hrg, out_ok, g6]
  have hmz : (m.map qD).length ≤ sz := by rw [List.length_map]; exact hml
  generalize keys S h w ls Es Es.length = K at *
  have c7 : compL (uN 9) tT (e2 gIx (eV 9) (eC (.int 3))) [9] (m.map qD) [some (.fr (gD S)), some (.fr (esD Es)), some (.fr (ltD ls)), a3, some (.fr (.list (K.map qD))), a5, a6, a7, a8, none] = .ok (m.map fun t => .int t.d) [some (.fr (gD S)), some (.fr (esD Es)), some (.fr (ltD ls)), a3, some (.fr (.list (K.map qD))), a5, a6, a7, a8, none] := by
    exact comp_m (g := qD) (y := fun t => .int t.d) m fun t ht => ⟨[(9, qD t)], rfl, by
      have i3 : gIx (qD t) (.int 3) = some (.int t.d) := rfl
      simp -implicitDefEqProofs only [setEv_cons, setEv_nil, List.set_cons_succ, List.set_cons_zero, e2_ap, eV_ap, eC_ap, List.getElem?_cons_succ, List.getElem?_cons_zero, getD_fr, bind_ok, i3, lift_some, gets_ok, wipe_cons, wipe_nil, true_and]⟩
  refine ⟨[some (.fr (gD S)), some (.fr (esD Es)), some (.fr (ltD ls)), a3, some (.fr (.list (K.map qD))), a5, a6, a7, a8, none], ?_⟩
  unfold fn_order_of_entries
  rw [body_st [some (.fr (gD S)), some (.fr (esD Es)), some (.fr (ltD ls)), none, none, none, none, none, none, none], seq_step s1, seq_step s2, seq_step s3, seq_step s4, seq_step s5, seq_step s6]
  simp -implicitDefEqProofs only [sRt_ap, eComp_ap, itm_ap, eL_ap, lCons_ap, lNil_ap, eVF_ap, List.getElem?_cons_succ, List.getElem?_cons_zero, getF_some (fz_frs _), bind_ok, List.set_cons_succ, List.set_cons_zero, hm, lift_some, items_l, hmz, if_true, wipe_cons, wipe_nil, c7, rest_cons, rest_nil, frO_none, out_ok, fr_rt]
end
end Lw

set_option Elab.async false
set_option linter.all false
set_option maxRecDepth 100000
set_option maxHeartbeats 4000000
set_option autoImplicit false
namespace Lw
open PySem PySem.Spec L2 Ly
theorem dw {xs : List Int} {k i m : Nat} {e : Ev} {fm : EM} (hm : 1 ≤ m) (he : e[i]? = some (some (Dr xs k))) (hf : fm e = .ok (.int (m : Nat)) e) : ∃ r : Nat, eCall 2 [0] fn_law_draw (aIo i (aCons fm aNil)) e = .ok (.int (r : Nat)) (e.set i (some (Dr xs (k + 1)))) ∧ r < m := by
  obtain ⟨r, fin, h1, h2, h3, h4⟩ := lawdraw_i (xs := xs) (k := k) (m := (m : Nat)) (by omega)
  obtain ⟨n, rfl⟩ : ∃ n : Nat, r = n := ⟨r.toNat, by omega⟩
  refine ⟨n, ?_, by omega⟩
  rw [call_ap, aIo_ap he]
  simp -implicitDefEqProofs only [aCons_ap, aNil_ap, hf, bind_ok]
  rw [args_inr _ he]
  simp -implicitDefEqProofs only [args_inl, args_nil, Option.map_some, Option.elim_some, List.length_cons, List.length_nil, nd_inr, nd_inl, nd_nil, List.all_cons, List.all_nil, Bool.and_self, and_self, if_true, h1, back_ret, backA_inr, backA_inl, backA_nil, h4, List.mem_singleton, Option.join_some]
def Isg (xs : List Int) (h w : PyData) (a3 : Option O) (ys : List PyData) (e : Ev) : Prop := ∃ (k' : Nat) (cs : List Nat), e = [some (Dr xs k'), some (.fr h), some (.fr w), a3, none] ∧ ys = cs.map ch ∧ ∀ c ∈ cs, c ∈ csS
theorem sg_at (i : Nat) (h : i < 4) : ∃ c ∈ csS, gIx (.str ("ABC#" : Str)) (.int (i : Nat)) = some (ch c) := by
  have : i = 0 ∨ i = 1 ∨ i = 2 ∨ i = 3 := by omega
  rcases this with rfl | rfl | rfl | rfl
  · exact ⟨65, by decide, gIx_s (by decide +kernel) (by decide +kernel)⟩
  · exact ⟨66, by decide, gIx_s (by decide +kernel) (by decide +kernel)⟩
  · exact ⟨67, by decide, gIx_s (by decide +kernel) (by decide +kernel)⟩
  · exact ⟨35, by decide, gIx_s (by decide +kernel) (by decide +kernel)⟩
theorem row_d {xs : List Int} {h w : PyData} {a3 : Option O} (k n : Nat) : ∃ (cs : List Nat) (k' : Nat), compL (uN 4) tT (e2 gIx (eC (.str ("ABC#" : Str))) (eCall 2 [0] fn_law_draw (aIo 0 (aCons (eC (.int 4)) aNil)))) [4] ((List.range n).map iN) [some (Dr xs k), some (.fr h), some (.fr w), a3, none] = .ok (cs.map ch) [some (Dr xs k'), some (.fr h), some (.fr w), a3, none] ∧ cs.length = n ∧ ∀ c ∈ cs, c ∈ csS := by
  obtain ⟨zs, e', q1, ⟨k', cs, rfl, hzs, hcs⟩, q3⟩ := comp_st (u := uN 4) (f := e2 gIx (eC (.str ("ABC#" : Str))) (eCall 2 [0] fn_law_draw (aIo 0 (aCons (eC (.int 4)) aNil)))) (own := [4]) (g := iN)
    (Isg xs h w a3) (List.range n) [] [some (Dr xs k), some (.fr h), some (.fr w), a3, none]
    (fun d _ ys e ⟨k', cs, h3, h4, h5⟩ => by
      subst h3
      subst h4
      refine ⟨[(4, iN d)], rfl, ?_⟩
      obtain ⟨i, q, hi⟩ := dw (xs := xs) (k := k') (i := 0) (m := 4) (e := [some (Dr xs k'), some (.fr h), some (.fr w), a3, some (.fr (iN d))]) (fm := eC (.int 4)) (by omega) rfl rfl
      obtain ⟨c, hc, hat⟩ := sg_at i hi
      simp -implicitDefEqProofs only [setEv_cons, setEv_nil, List.set_cons_succ, List.set_cons_zero, e2_ap, eC_ap, bind_ok, q, hat, lift_some, gets_ok, wipe_cons, wipe_nil]
      refine ⟨k' + 1, cs ++ [c], rfl, by rw [List.map_append]; rfl, fun x hx => ?_⟩
      rcases List.mem_append.mp hx with q | q
      · exact h5 x q
      · rw [List.mem_singleton] at q
        rw [q]
        exact hc) ⟨k, [], rfl, rfl, (fun (c : Nat) (hc : c ∈ ([] : List Nat)) => nomatch hc)⟩
  rw [List.nil_append] at hzs
  subst hzs
  rw [List.length_map, List.length_range] at q3
  exact ⟨cs, k', q1, q3, hcs⟩
def Ish (xs : List Int) (h : PyData) (w : Nat) (ys : List PyData) (e : Ev) : Prop := ∃ (k' : Nat) (S : Gr), e = [some (Dr xs k'), some (.fr h), some (.fr (iN w)), none, none] ∧ ys = S.map tD ∧ ∀ r ∈ S, r.length = w ∧ ∀ c ∈ r, c ∈ csS
theorem sheet_i {xs : List Int} (k : Nat) {h w : Nat} (h1 : 1 ≤ h) (h2 : h ≤ 60) (w1 : 1 ≤ w) (w2 : w ≤ 60) : ∃ S k' fin, fn_law_sheet [Dr xs k, .fr (iN h), .fr (iN w)] = .ret (gD S) fin ∧ fin[0]? = some (some (Dr xs k')) ∧ Shp S h w csS := by
  have hrh : rng1 [iN h] = some ((List.range h).map iN) := by
    rw [show rng1 [iN h] = some (rngL 0 (h : Nat)) from rng1_i (by omega) (by omega), rngL_0]
  have hrw : rng1 [iN w] = some ((List.range w).map iN) := by
    rw [show rng1 [iN w] = some (rngL 0 (w : Nat)) from rng1_i (by omega) (by omega), rngL_0]
  have hzh : ((List.range h).map iN).length ≤ sz := by rw [List.length_map, List.length_range, sz_v]; omega
  have hzw : ((List.range w).map iN).length ≤ sz := by rw [List.length_map, List.length_range, sz_v]; omega
  obtain ⟨zs, e', q1, ⟨k', S, rfl, hzs, hcs⟩, q3⟩ := comp_st (u := uN 3) (f := eM1 gJoin (eC (.str ("" : Str))) (eComp (iL rng1 (lCons (eV 2) lNil)) (uN 4) tT (e2 gIx (eC (.str ("ABC#" : Str))) (eCall 2 [0] fn_law_draw (aIo 0 (aCons (eC (.int 4)) aNil)))) [4])) (own := [3]) (g := iN)
    (Ish xs (iN h) w) (List.range h) [] [some (Dr xs k), some (.fr (iN h)), some (.fr (iN w)), none, none]
    (fun d _ ys e ⟨k', S, h3, h4, h5⟩ => by
      subst h3
      subst h4
      obtain ⟨cs, k2, q, hl, hc⟩ := row_d (xs := xs) (h := iN h) (w := iN w) (a3 := some (.fr (iN d))) k' w
      refine ⟨[(3, iN d)], rfl, ?_⟩
      have j := join_mk (cs := cs) (by rw [hl, sz_v]; omega)
      simp -implicitDefEqProofs only [setEv_cons, setEv_nil, List.set_cons_succ, List.set_cons_zero, eM1_ap, eC_ap, eComp_ap, iL_ap, lCons_ap, lNil_ap, eV_ap, List.getElem?_cons_succ, List.getElem?_cons_zero, getD_fr, bind_ok, hrw, lift_some, hzw, if_true, wipe_cons, wipe_nil, q, rest_cons, rest_nil, frO_none, strK_s, j, lift_some, gets_ok]
      refine ⟨k2, S ++ [cs], rfl, by rw [List.map_append]; rfl, fun x hx => ?_⟩
      rcases List.mem_append.mp hx with q | q
      · exact h5 x q
      · rw [List.mem_singleton] at q
        rw [q]
        exact ⟨hl, hc⟩) ⟨k, [], rfl, rfl, (fun (r : List Nat) (hr : r ∈ ([] : Gr)) => nomatch hr)⟩
  rw [List.nil_append] at hzs
  subst hzs
  rw [List.length_map, List.length_range] at q3
  refine ⟨S, k', [some (Dr xs k'), some (.fr (iN h)), some (.fr (iN w)), none, none], ?_, rfl, ⟨q3, h1, h2, fun r hr => (hcs r hr).1, w1, w2, fun r hr => (hcs r hr).2, csS_lt⟩⟩
  unfold fn_law_sheet
  rw [body_st [some (Dr xs k), some (.fr (iN h)), some (.fr (iN w)), none, none]]
  simp -implicitDefEqProofs only [sRt_ap, eComp_ap, iL_ap, lCons_ap, lNil_ap, eV_ap, List.getElem?_cons_succ, List.getElem?_cons_zero, getD_fr, bind_ok, hrh, lift_some, hzh, if_true, wipe_cons, wipe_nil, List.set_cons_succ, List.set_cons_zero, q1, rest_cons, rest_nil, frO_none, out_ok, fr_rt]
/-! an entry -/
theorem da_at (i : Nat) (h : i < 2) : ∃ c, (c = 68 ∨ c = 46) ∧ gIx (.list [.str ("D" : Str), .str ("." : Str)]) (.int (i : Nat)) = some (ch c) := by
  have : i = 0 ∨ i = 1 := by omega
  rcases this with rfl | rfl
  · exact ⟨68, .inl rfl, rfl⟩
  · exact ⟨46, .inr rfl, rfl⟩
theorem getD_snoc_l {α : Type} (l : List α) (x d : α) {i : Nat} (h : i < l.length) : (l ++ [x]).getD i d = l.getD i d := by
  rw [List.getD_eq_getElem?_getD, List.getElem?_append_left h, ← List.getD_eq_getElem?_getD]
theorem getD_snoc_r {α : Type} (l : List α) (x d : α) : (l ++ [x]).getD l.length d = x := by
  rw [List.getD_eq_getElem?_getD, List.getElem?_append_right (Nat.le_refl _), Nat.sub_self]
  rfl
def Ien (xs : List Int) (s : PyData) (o : O) (row : List Nat) (j : Nat) (e : Ev) : Prop := ∃ (k' : Nat) (cs : List Nat) (a5 a6 : Option O), e = [some (Dr xs k'), some (.fr s), some o, some (.fr (tD row)), some (.fr (tD cs)), a5, a6] ∧ cs.length = j ∧ (∀ c ∈ cs, c ∈ csE) ∧ ∀ i, i < j → (cs.getD i 0 = 35 ↔ row.getD i 0 = 35)
theorem en_0 {xs : List Int} {s : PyData} {o : O} {row : List Nat} (hr : ∀ c ∈ row, c ∈ csS) (hl : row.length ≤ 60) (j d : Nat) (e : Ev) (hd : row[j]? = some d) (hI : Ien xs s o row j e) : ∃ as, uN 5 (ch d) = some as ∧ (lp_law_entry_0 (setEv e as)).go (Ien xs s o row (j + 1)) := by
  obtain ⟨k', cs, a5, a6, rfl, h1, h2, h3⟩ := hI
  have hjl := (List.getElem?_eq_some_iff.mp hd).1
  have hdm : d ∈ row := List.mem_of_getElem? hd
  have hrd : row.getD j 0 = d := by rw [List.getD_eq_getElem?_getD, hd]; rfl
  have hdS := hr d hdm
  have hlt := csS_lt d hdS
  refine ⟨[(5, ch d)], rfl, ?_⟩
  show (lp_law_entry_0 [some (Dr xs k'), some (.fr s), some o, some (.fr (tD row)), some (.fr (tD cs)), some (.fr (ch d)), a6]).go _
  obtain ⟨r, q, hi⟩ := dw (xs := xs) (k := k') (i := 0) (m := 6) (e := [some (Dr xs k'), some (.fr s), some o, some (.fr (tD row)), some (.fr (tD cs)), some (.fr (ch d)), a6]) (fm := eC (.int 6)) (by omega) rfl rfl
  have st1 : sSt 6 (eCall 2 [0] fn_law_draw (aIo 0 (aCons (eC (.int 6)) aNil))) [some (Dr xs k'), some (.fr s), some o, some (.fr (tD row)), some (.fr (tD cs)), some (.fr (ch d)), a6] = .nx [some (Dr xs (k' + 1)), some (.fr s), some o, some (.fr (tD row)), some (.fr (tD cs)), some (.fr (ch d)), some (.fr (.int (r : Nat)))] := by
    rw [sSt_ap, q]
    rfl
  have fin : ∀ c, (c ∈ csE) → (c = 35 ↔ d = 35) → (eIf (tOr2 (t2 gEq (eV 5) (eC (.str ("#" : Str)))) (t2 gGt (eV 6) (eC (.int 1)))) (eV 5) (e2 gIx (eList (lCons (eC (.str ("D" : Str))) (lCons (eC (.str ("." : Str))) lNil))) (eV 6)) [some (Dr xs (k' + 1)), some (.fr s), some o, some (.fr (tD row)), some (.fr (tD cs)), some (.fr (ch d)), some (.fr (.int (r : Nat)))] = .ok (ch c) [some (Dr xs (k' + 1)), some (.fr s), some o, some (.fr (tD row)), some (.fr (tD cs)), some (.fr (ch d)), some (.fr (.int (r : Nat)))]) → (lp_law_entry_0 [some (Dr xs k'), some (.fr s), some o, some (.fr (tD row)), some (.fr (tD cs)), some (.fr (ch d)), a6]).go (Ien xs s o row (j + 1)) := fun c hc1 hc2 hq => by
    have hadd : gAdd (tD cs) (ch c) = some (tD (cs ++ [c])) := gAdd_tx (b := [c]) (by rw [h1, List.length_singleton, sz_v]; omega)
    unfold lp_law_entry_0
    rw [seq_step st1, sSt_ap, e2_ap]
    simp -implicitDefEqProofs only [eV_ap (i := 4), List.getElem?_cons_succ, List.getElem?_cons_zero, getD_fr, bind_ok, hq, hadd, lift_some, out_ok, go_nx]
    refine ⟨k' + 1, cs ++ [c], some (.fr (ch d)), some (.fr (.int (r : Nat))), rfl, by rw [List.length_append, h1]; rfl, fun x hx => ?_, fun i hi => ?_⟩
    · rcases List.mem_append.mp hx with q | q
      · exact h2 x q
      · rw [List.mem_singleton] at q
        rw [q]
        exact hc1
    · by_cases hij : i < j
      · rw [getD_snoc_l _ _ _ (by rw [h1]; exact hij)]
        exact h3 i hij
      · have : i = j := by omega
        subst this
        have := getD_snoc_r cs c 0
        rw [h1] at this
        rw [this, hrd]
        exact hc2
  have g1 := gEq_ch (a := d) (b := 35) hlt (by omega)
  have hSE : d ∈ csE := by
    rcases List.mem_cons.mp hdS with rfl | hd'
    · decide
    · rcases List.mem_cons.mp hd' with rfl | hd'
      · decide
      · rcases List.mem_cons.mp hd' with rfl | hd'
        · decide
        · rw [List.mem_singleton] at hd'
          subst hd'
          decide
  have h2s : (2 : Nat) ≤ sz := by rw [sz_v]; omega
  by_cases c1 : d = 35
  · rw [decide_eq_true c1] at g1
    have g1 : gEq (ch d) (.str ("#" : Str)) = some (.bool true) := g1
    refine fin d hSE Iff.rfl ?_
    simp -implicitDefEqProofs only [eIf_ap, tOr2_ap, t2_ap, e2_ap, eV_ap, eC_ap, List.getElem?_cons_succ, List.getElem?_cons_zero, getD_fr, bind_ok, g1, lift_some, toB_b, if_true]
  · rw [decide_eq_false c1] at g1
    have g1 : gEq (ch d) (.str ("#" : Str)) = some (.bool false) := g1
    by_cases c2 : 1 < r
    · have g2 : gGt (.int (r : Nat)) (.int 1) = some (.bool true) := by
        rw [gGt_i, decide_eq_true (by omega)]
      refine fin d hSE Iff.rfl ?_
      simp -implicitDefEqProofs only [eIf_ap, tOr2_ap, t2_ap, e2_ap, eV_ap, eC_ap, List.getElem?_cons_succ, List.getElem?_cons_zero, getD_fr, bind_ok, g1, g2, lift_some, toB_b, Bool.false_eq_true, if_false, if_true]
    · have g2 : gGt (.int (r : Nat)) (.int 1) = some (.bool false) := by
        rw [gGt_i, decide_eq_false (by omega)]
      obtain ⟨c, hc, hat⟩ := da_at r (by omega)
      refine fin c (by rcases hc with rfl | rfl <;> decide) (Iff.intro (fun z => by rcases hc with rfl | rfl <;> omega) (fun z => absurd z c1)) ?_
      simp -implicitDefEqProofs only [eIf_ap, tOr2_ap, t2_ap, e2_ap, eList_ap, lCons_ap, lNil_ap, eV_ap, eC_ap, List.getElem?_cons_succ, List.getElem?_cons_zero, getD_fr, bind_ok, g1, g2, lift_some, toB_b, Bool.false_eq_true, if_false, List.length_cons, List.length_nil, Nat.zero_add, h2s, if_true, hat]
abbrev oG (E : Gr) : O := .nd .lst ((E.map tD).map .fr)
theorem oG_snoc (l : Gr) (x : List Nat) : oG (l ++ [x]) = .nd .lst ((l.map tD ++ [tD x]).map .fr) := by
  show O.nd .lst (((l ++ [x]).map tD).map .fr) = _
  rw [List.map_append]
  rfl
def IEn (xs : List Int) (S : Gr) (w : Nat) (i : Nat) (e : Ev) : Prop := ∃ (k' : Nat) (E : Gr) (a3 a4 a5 a6 : Option O), e = [some (Dr xs k'), some (.fr (gD S)), some (oG E), a3, a4, a5, a6] ∧ E.length = i ∧ (∀ r ∈ E, r.length = w ∧ ∀ c ∈ r, c ∈ csE) ∧ ∀ r c, r < i → c < w → (at2 E r c = 35 ↔ at2 S r c = 35)
theorem en_1 {xs : List Int} {S : Gr} {h w : Nat} (p : Shp S h w csS) (i : Nat) (row : List Nat) (e : Ev) (hd : S[i]? = some row) (hI : IEn xs S w i e) : ∃ as, uN 3 (tD row) = some as ∧ (lp_law_entry_1 (setEv e as)).go (IEn xs S w (i + 1)) := by
  obtain ⟨k', E, a3, a4, a5, a6, rfl, h1, h2, h3⟩ := hI
  have hil := (List.getElem?_eq_some_iff.mp hd).1
  have hrm : row ∈ S := List.mem_of_getElem? hd
  have hrd : S.getD i [] = row := by rw [List.getD_eq_getElem?_getD, hd]; rfl
  have hrl := p.w0 row hrm
  have w60 := p.w2
  have h60 := p.h2
  have hS := p.h0
  refine ⟨[(3, tD row)], rfl, ?_⟩
  show (lp_law_entry_1 [some (Dr xs k'), some (.fr (gD S)), some (oG E), some (.fr (tD row)), a4, a5, a6]).go _
  obtain ⟨e', q, k2, cs, b5, b6, rfl, c1, c2, c3⟩ := for_go (u := uN 5) (g := lp_law_entry_0) (gd := ch) (Ien xs (gD S) (oG E) row) (l := row) (e := [some (Dr xs k'), some (.fr (gD S)), some (oG E), some (.fr (tD row)), some (.fr (tD [])), a5, a6])
    (fun j d e hd hI => en_0 (p.c0 row hrm) (by omega) j d e hd hI) ⟨k', [], a5, a6, rfl, rfl, (fun (c : Nat) (hc : c ∈ ([] : List Nat)) => nomatch hc), fun i hi => by omega⟩
  have st1 : sSt 4 (eC (.str ("" : Str))) [some (Dr xs k'), some (.fr (gD S)), some (oG E), some (.fr (tD row)), a4, a5, a6] = .nx [some (Dr xs k'), some (.fr (gD S)), some (oG E), some (.fr (tD row)), some (.fr (tD [])), a5, a6] := rfl
  have st2 : sFor (itm (eV 3)) (uN 5) lp_law_entry_0 [some (Dr xs k'), some (.fr (gD S)), some (oG E), some (.fr (tD row)), some (.fr (tD [])), a5, a6] = .nx [some (Dr xs k2), some (.fr (gD S)), some (oG E), some (.fr (tD row)), some (.fr (tD cs)), b5, b6] := by
    have hit := items_tx row
    simp -implicitDefEqProofs only [sFor_ap, itm_ap, eV_ap, List.getElem?_cons_succ, List.getElem?_cons_zero, getD_fr, bind_ok, hit, lift_some, out_ok, q]
  unfold lp_law_entry_1
  rw [seq_step st1, seq_step st2, sApp_at (i := 2) (l := lCons (eV 4) lNil) (xs := E.map tD) (d := tD cs) rfl rfl (by rw [List.length_map, h1, sz_v]; omega), go_nx]
  refine ⟨k2, E ++ [cs], some (.fr (tD row)), some (.fr (tD cs)), b5, b6, by rw [oG_snoc]; rfl, by rw [List.length_append, h1]; rfl, fun r hr => ?_, fun r c hr hc => ?_⟩
  · rcases List.mem_append.mp hr with q | q
    · exact h2 r q
    · rw [List.mem_singleton] at q
      rw [q]
      exact ⟨by rw [c1, hrl], c2⟩
  · by_cases hri : r < i
    · unfold at2
      rw [getD_snoc_l _ _ _ (by rw [h1]; exact hri)]
      exact h3 r c hri hc
    · have : r = i := by omega
      subst this
      have := getD_snoc_r E cs []
      rw [h1] at this
      unfold at2
      rw [this, hrd]
      exact c3 c (by rw [hrl]; exact hc)
theorem entry_i {xs : List Int} (k : Nat) {S : Gr} {h w : Nat} (p : Shp S h w csS) : ∃ E k' fin, fn_law_entry [Dr xs k, .fr (gD S)] = .ret (gD E) fin ∧ fin[0]? = some (some (Dr xs k')) ∧ Ent S E h w := by
  obtain ⟨e', q, k', E, a3, a4, a5, a6, rfl, c1, c2, c3⟩ := for_go (u := uN 3) (g := lp_law_entry_1) (gd := tD) (IEn xs S w) (l := S) (e := [some (Dr xs k), some (.fr (gD S)), some (oG []), none, none, none, none])
    (fun i row e hd hI => en_1 p i row e hd hI) ⟨k, [], none, none, none, none, rfl, rfl, (fun (r : List Nat) (hr : r ∈ ([] : Gr)) => nomatch hr), fun r c hr => by omega⟩
  rw [p.h0] at c1 c3
  have hfE : O.fz (oG E) = some (gD E) := by rw [O.fz, fzL_frs]; rfl
  refine ⟨E, k', [some (Dr xs k'), some (.fr (gD S)), some (.fr (gD E)), a3, a4, a5, a6], ?_, rfl, ⟨p, ⟨c1, p.h1, p.h2, fun r hr => (c2 r hr).1, p.w1, p.w2, fun r hr => (c2 r hr).2, csE_lt⟩, c3⟩⟩
  have st1 : sStL 2 lNil [some (Dr xs k), some (.fr (gD S)), none, none, none, none, none] = .nx [some (Dr xs k), some (.fr (gD S)), some (oG []), none, none, none, none] := by
    rw [sStL_ap, lNil_ap, out_ok, if_pos (show ([] : List PyData).length ≤ sz from Nat.zero_le _)]; rfl
  have st2 : sFor (itm (eV 1)) (uN 3) lp_law_entry_1 [some (Dr xs k), some (.fr (gD S)), some (oG []), none, none, none, none] = .nx [some (Dr xs k'), some (.fr (gD S)), some (oG E), a3, a4, a5, a6] := by
    simp -implicitDefEqProofs only [sFor_ap, itm_ap, eV_ap, List.getElem?_cons_succ, List.getElem?_cons_zero, getD_fr, bind_ok, items_l, lift_some, out_ok, q]
  unfold fn_law_entry
  rw [body_st [some (Dr xs k), some (.fr (gD S)), none, none, none, none, none], seq_step st1, seq_step st2]
  simp -implicitDefEqProofs only [sRt_ap, eVF_ap, List.getElem?_cons_succ, List.getElem?_cons_zero, getF_some hfE, List.set_cons_succ, List.set_cons_zero, out_ok, fr_rt]
end Lw

set_option Elab.async false
set_option linter.all false
set_option maxRecDepth 100000
set_option maxHeartbeats 4000000
set_option autoImplicit false
namespace Lw
open PySem PySem.Spec L2 Ly
theorem sqs_nodup (w : Nat) : ∀ h, (sqs h w).Nodup
  | 0 => List.Pairwise.nil
  | h + 1 => by
    rw [sqs_succ]
    unfold pre
    refine List.pairwise_append.mpr ⟨sqs_nodup w h, List.pairwise_map.mpr (List.nodup_range.imp fun {a b} hab z => hab (congrArg Prod.snd z)), fun a ha b hb z => ?_⟩
    obtain ⟨c, _, rfl⟩ := List.mem_map.mp hb
    have := (sqs_mem.mp ha).1
    rw [z] at this
    exact Nat.lt_irrefl _ this
def fC (S : Gr) (p : Cl) : Bool := !decide (at2 S p.1 p.2 = 35)
abbrev cl (S : Gr) (h w : Nat) : List Cl := (sqs h w).filter (fC S)
theorem cl_succ (S : Gr) (i w : Nat) : cl S (i + 1) w = cl S i w ++ ((List.range w).filter fun c => fC S (i, c)).map fun c => (i, c) := by
  unfold cl
  rw [sqs_succ]
  unfold pre
  rw [List.filter_append, List.filter_map]
  rfl
theorem cl_cel {S : Gr} {h w : Nat} {p : Cl} (hp : p ∈ cl S h w) : Cel S h w p := by
  obtain ⟨h1, h2⟩ := List.mem_filter.mp hp
  obtain ⟨h3, h4⟩ := sqs_mem.mp h1
  refine ⟨h3, h4, fun z => ?_⟩
  unfold fC at h2
  rw [decide_eq_true z] at h2
  cases h2
theorem cl_len (S : Gr) (h w : Nat) : (cl S h w).length ≤ h * w := Nat.le_trans (List.length_filter_le _ _) (by rw [sqs_len]; omega)
section
variable {a0 a1 a2 a3 a4 a5 a6 a7 a8 a9 a10 a11 a12 a13 a14 a16 : Option O}
theorem cells_i {S : Gr} {h w : Nat} (p : Shp S h w csS) : ∃ b4, sFor (iL rng1 (lCons (eV 10) lNil)) (uN 4) lp_law_0 [a0, a1, some (.fr (gD S)), some (.fr (lD [])), a4, a5, a6, a7, a8, a9, some (.fr (iN h)), some (.fr (iN w)), a12, a13, a14, none, a16] = .nx [a0, a1, some (.fr (gD S)), some (.fr (lD (cl S h w))), b4, a5, a6, a7, a8, a9, some (.fr (iN h)), some (.fr (iN w)), a12, a13, a14, none, a16] := by
  have h60 := p.h2
  have w60 := p.w2
  have hrh : rng1 [iN h] = some ((List.range h).map iN) := by
    rw [show rng1 [iN h] = some (rngL 0 (h : Nat)) from rng1_i (by omega) (by omega), rngL_0]
  have hrw : rng1 [iN w] = some ((List.range w).map iN) := by
    rw [show rng1 [iN w] = some (rngL 0 (w : Nat)) from rng1_i (by omega) (by omega), rngL_0]
  have hzw : ((List.range w).map iN).length ≤ sz := by rw [List.length_map, List.length_range, sz_v]; omega
  have h2s : (2 : Nat) ≤ sz := by rw [sz_v]; omega
  obtain ⟨e', q, b4, rfl⟩ := for_go (u := uN 4) (g := lp_law_0) (gd := iN) (fun i e => ∃ b4, e = [a0, a1, some (.fr (gD S)), some (.fr (lD (cl S i w))), b4, a5, a6, a7, a8, a9, some (.fr (iN h)), some (.fr (iN w)), a12, a13, a14, none, a16]) (l := List.range h) (e := [a0, a1, some (.fr (gD S)), some (.fr (lD [])), a4, a5, a6, a7, a8, a9, some (.fr (iN h)), some (.fr (iN w)), a12, a13, a14, none, a16])
    (fun i d e hd ⟨b4, he⟩ => by
      subst he
      have hil := (List.getElem?_eq_some_iff.mp hd).1
      rw [List.length_range] at hil
      have : d = i := by
        rw [List.getElem?_range hil] at hd
        exact (Option.some.inj hd).symm
      subst this
      refine ⟨[(4, iN d)], rfl, ?_⟩
      show (lp_law_0 [a0, a1, some (.fr (gD S)), some (.fr (lD (cl S d w))), some (.fr (iN d)), a5, a6, a7, a8, a9, some (.fr (iN h)), some (.fr (iN w)), a12, a13, a14, none, a16]).go _
      have hb : d * w ≤ 60 * 60 := Nat.mul_le_mul (by omega) w60
      have hcl := cl_len S d w
      have hx := p.ix hil
      have hadd : gAdd (lD (cl S d w)) (.list (((List.range w).filter fun c => fC S (d, c)).map fun c => cD (d, c))) = some (lD (cl S (d + 1) w)) := by
        have h1 := List.length_filter_le (fun c => fC S (d, c)) (List.range w)
        rw [List.length_range] at h1
        rw [gAdd_l (by rw [List.length_map, List.length_map, sz_v]; omega), cl_succ]
        show _ = some (PyData.list ((cl S d w ++ _).map cD))
        rw [List.map_append, List.map_map]
        rfl
      have c1 : compL (uN 15) (t2 gNe (e2 gIx (e2 gIx (eV 2) (eV 4)) (eV 15)) (eC (.str ("#" : Str)))) (eTup (lCons (eV 4) (lCons (eV 15) lNil))) [15] ((List.range w).map iN) [a0, a1, some (.fr (gD S)), some (.fr (lD (cl S d w))), some (.fr (iN d)), a5, a6, a7, a8, a9, some (.fr (iN h)), some (.fr (iN w)), a12, a13, a14, none, a16] = .ok (((List.range w).filter fun c => fC S (d, c)).map fun c => cD (d, c)) [a0, a1, some (.fr (gD S)), some (.fr (lD (cl S d w))), some (.fr (iN d)), a5, a6, a7, a8, a9, some (.fr (iN h)), some (.fr (iN w)), a12, a13, a14, none, a16] := by
        refine comp_fm (g := iN) (y := fun c => cD (d, c)) (p := fun c => fC S (d, c)) (List.range w) fun c hc => ⟨[(15, iN c)], rfl, ?_⟩
        have hc := List.mem_range.mp hc
        have hy := p.ix2 hil hc
        have hn : gNe (ch (at2 S d c)) (.str ("#" : Str)) = some (.bool (!decide (at2 S d c = 35))) := gNe_ch (b := 35) (csS_lt _ (p.at hil hc)) (by omega)
        have hf : (!decide (at2 S d c = 35)) = fC S (d, c) := rfl
        simp -implicitDefEqProofs only [setEv_cons, setEv_nil, List.set_cons_succ, List.set_cons_zero, t2_ap, e2_ap, eTup_ap, lCons_ap, lNil_ap, eV_ap, eC_ap, List.getElem?_cons_succ, List.getElem?_cons_zero, getD_fr, bind_ok, hx, hy, hn, lift_some, toB_b, hf, List.length_cons, List.length_nil, Nat.zero_add, h2s, if_true, gets_ok, wipe_cons, wipe_nil, true_and, implies_true, and_self]
      unfold lp_law_0
      simp -implicitDefEqProofs only [sSt_ap, e2_ap, eComp_ap, iL_ap, lCons_ap, lNil_ap, eV_ap, List.getElem?_cons_succ, List.getElem?_cons_zero, getD_fr, bind_ok, hrw, lift_some, hzw, if_true, wipe_cons, wipe_nil, List.set_cons_succ, List.set_cons_zero, c1, rest_cons, rest_nil, frO_none, hadd, out_ok, go_nx]
      exact ⟨_, rfl⟩) ⟨a4, rfl⟩
  rw [List.length_range] at q
  refine ⟨b4, ?_⟩
  simp -implicitDefEqProofs only [sFor_ap, iL_ap, lCons_ap, lNil_ap, eV_ap, List.getElem?_cons_succ, List.getElem?_cons_zero, getD_fr, bind_ok, hrh, lift_some, out_ok, q]
/-! the lights -/
theorem gApp_st {i : Nat} {l : Ly.LM} {e e1 : Ev} {xs0 : List O} {xs : List PyData} {d : PyData} (h0 : e[i]? = some (some (.nd .lst xs0))) (hl : l e = .ok [d] e1) (h1 : e1[i]? = some (some (.nd .lst (xs.map .fr)))) (hs : xs.length < sz) : sApp i l e = .nx (e1.set i (some (.nd .lst ((xs ++ [d]).map .fr)))) := by
  have q0 : lstAt e i = some xs0 := by unfold lstAt; rw [h0]
  have q1 : lstAt e1 i = some (xs.map .fr) := by unfold lstAt; rw [h1]
  unfold sApp
  rw [q0]
  show (l e).out _ = _
  rw [hl]
  show (match lstAt e1 i with
      | some xs => if xs.length < sz then Out.nx (e1.set i (some (.nd .lst (xs ++ [O.fr d])))) else Out.no
      | none => .no) = _
  rw [q1, List.map_append]
  exact if_pos (by rw [List.length_map]; exact hs)
abbrev oL (ls : List (List Cl)) : O := .nd .lst ((ls.map lD).map .fr)
theorem oL_snoc (l : List (List Cl)) (x : List Cl) : oL (l ++ [x]) = .nd .lst ((l.map lD ++ [lD x]).map .fr) := by
  show O.nd .lst (((l ++ [x]).map lD).map .fr) = _
  rw [List.map_append]
  rfl
theorem cut_l (C : List Cl) (i j : Nat) : gSl (lD C) (some (i : Int)) (some (j : Int)) = some (lD ((C.take j).drop i)) := by
  rw [gSl_l, cut_mid, ← List.map_take, ← List.map_drop]
theorem cut_len (C : List Cl) {f r : Nat} (h : f + 2 ≤ C.length) : 2 ≤ ((C.take (f + 2 + r)).drop f).length ∧ ((C.take (f + 2 + r)).drop f).length ≤ 2 + r := by
  rw [List.length_drop, List.length_take]
  omega
theorem lights_i {xs : List Int} {S : Gr} {h w : Nat} (k n : Nat) (hn : n ≤ 4) (h5 : h ≤ 60) (w5 : w ≤ 60) : ∃ (k' : Nat) (ls : List (List Cl)) (b6 b14 : Option O), forL (uN 6) lp_law_1 ((List.range n).map iN) [a0, some (Dr xs k), a2, some (.fr (lD (cl S h w))), a4, some (oL []), a6, a7, a8, a9, a10, a11, a12, a13, a14, none, a16] = .nx [a0, some (Dr xs k'), a2, some (.fr (lD (cl S h w))), a4, some (oL ls), b6, a7, a8, a9, a10, a11, a12, a13, b14, none, a16] ∧ Lts S h w ls := by
  have hcn := cl_len S h w
  have hb : h * w ≤ 60 * 60 := Nat.mul_le_mul h5 w5
  have hnd : (cl S h w).Nodup := (sqs_nodup w h).sublist List.filter_sublist
  have hcel : ∀ p ∈ cl S h w, Cel S h w p := fun p hp => cl_cel hp
  generalize cl S h w = C at *
  obtain ⟨e', q, k', ls, b6, b14, rfl, h1, h2⟩ := for_go (u := uN 6) (g := lp_law_1) (gd := iN) (fun i e => ∃ (k' : Nat) (ls : List (List Cl)) (b6 b14 : Option O), e = [a0, some (Dr xs k'), a2, some (.fr (lD C)), a4, some (oL ls), b6, a7, a8, a9, a10, a11, a12, a13, b14, none, a16] ∧ ls.length ≤ i ∧ ∀ l ∈ ls, 2 ≤ l.length ∧ l.length < 64 ∧ l.Nodup ∧ ∀ c ∈ l, Cel S h w c) (l := List.range n) (e := [a0, some (Dr xs k), a2, some (.fr (lD C)), a4, some (oL []), a6, a7, a8, a9, a10, a11, a12, a13, a14, none, a16])
    (fun i d e hd ⟨k', ls, b6, b14, he, h1, h2⟩ => by
      subst he
      have hil := (List.getElem?_eq_some_iff.mp hd).1
      rw [List.length_range] at hil
      refine ⟨[(6, iN d)], rfl, ?_⟩
      show (lp_law_1 [a0, some (Dr xs k'), a2, some (.fr (lD C)), a4, some (oL ls), some (.fr (iN d)), a7, a8, a9, a10, a11, a12, a13, b14, none, a16]).go _
      have hl := gLen_m cD C
      have ht : t2 gGt (eL gLen (lCons (eV 3) lNil)) (eC (.int 1)) [a0, some (Dr xs k'), a2, some (.fr (lD C)), a4, some (oL ls), some (.fr (iN d)), a7, a8, a9, a10, a11, a12, a13, b14, none, a16] = .ok (decide ((1 : Int) < (C.length : Nat))) [a0, some (Dr xs k'), a2, some (.fr (lD C)), a4, some (oL ls), some (.fr (iN d)), a7, a8, a9, a10, a11, a12, a13, b14, none, a16] := by
        simp -implicitDefEqProofs only [t2_ap, e2_ap, eL_ap, lCons_ap, lNil_ap, eV_ap, eC_ap, List.getElem?_cons_succ, List.getElem?_cons_zero, getD_fr, bind_ok, hl, lift_some, gGt_i, toB_b]
      unfold lp_law_1
      rw [sIf_ap, ht, out_ok]
      by_cases c1 : 1 < C.length
      · rw [decide_eq_true (by omega), if_pos rfl]
        obtain ⟨f, q1, hf⟩ := dw (xs := xs) (k := k') (i := 1) (m := C.length - 1) (e := [a0, some (Dr xs k'), a2, some (.fr (lD C)), a4, some (oL ls), some (.fr (iN d)), a7, a8, a9, a10, a11, a12, a13, b14, none, a16]) (fm := e2 gSub (eL gLen (lCons (eV 3) lNil)) (eC (.int 1))) (by omega) rfl (by
          have hs : ((C.length : Nat) : Int) - 1 = ((C.length - 1 : Nat) : Int) := by omega
          simp -implicitDefEqProofs only [e2_ap, eL_ap, lCons_ap, lNil_ap, eV_ap, eC_ap, List.getElem?_cons_succ, List.getElem?_cons_zero, getD_fr, bind_ok, hl, lift_some, gSub_i, hs])
        have st1 : sSt 14 (eCall 2 [0] fn_law_draw (aIo 1 (aCons (e2 gSub (eL gLen (lCons (eV 3) lNil)) (eC (.int 1))) aNil))) [a0, some (Dr xs k'), a2, some (.fr (lD C)), a4, some (oL ls), some (.fr (iN d)), a7, a8, a9, a10, a11, a12, a13, b14, none, a16] = .nx [a0, some (Dr xs (k' + 1)), a2, some (.fr (lD C)), a4, some (oL ls), some (.fr (iN d)), a7, a8, a9, a10, a11, a12, a13, some (.fr (iN f)), none, a16] := by
          rw [sSt_ap, q1]
          rfl
        obtain ⟨r, q2, hr⟩ := dw (xs := xs) (k := k' + 1) (i := 1) (m := 3) (e := [a0, some (Dr xs (k' + 1)), a2, some (.fr (lD C)), a4, some (oL ls), some (.fr (iN d)), a7, a8, a9, a10, a11, a12, a13, some (.fr (iN f)), none, a16]) (fm := eC (.int 3)) (by omega) rfl rfl
        have hsum : (f : Int) + 2 + (r : Nat) = ((f + 2 + r : Nat) : Int) := by omega
        have hcut := cut_l C f (f + 2 + r)
        have q2' : eCall 2 [0] fn_law_draw (aIo 1 (aCons (eC (.int 3)) aNil)) [a0, some (Dr xs (k' + 1)), a2, some (.fr (lD C)), a4, some (oL ls), some (.fr (iN d)), a7, a8, a9, a10, a11, a12, a13, some (.fr (iN f)), none, a16] = .ok (.int (r : Nat)) [a0, some (Dr xs (k' + 2)), a2, some (.fr (lD C)), a4, some (oL ls), some (.fr (iN d)), a7, a8, a9, a10, a11, a12, a13, some (.fr (iN f)), none, a16] := q2
        have hok1 : oK (iN f) = fun e => Res.ok (some (f : Int)) e := rfl
        have hok2 : oK (.int ((f + 2 + r : Nat) : Int)) = fun e => Res.ok (some ((f + 2 + r : Nat) : Int)) e := rfl
        have hsl : eS gSl (eV 3) (oS (eV 14)) (oS (e2 gAdd (e2 gAdd (eV 14) (eC (.int 2))) (eCall 2 [0] fn_law_draw (aIo 1 (aCons (eC (.int 3)) aNil))))) [a0, some (Dr xs (k' + 1)), a2, some (.fr (lD C)), a4, some (oL ls), some (.fr (iN d)), a7, a8, a9, a10, a11, a12, a13, some (.fr (iN f)), none, a16] = .ok (lD ((C.take (f + 2 + r)).drop f)) [a0, some (Dr xs (k' + 2)), a2, some (.fr (lD C)), a4, some (oL ls), some (.fr (iN d)), a7, a8, a9, a10, a11, a12, a13, some (.fr (iN f)), none, a16] := by
          simp -implicitDefEqProofs only [eS_ap, oS_ap, e2_ap, eV_ap, eC_ap, List.getElem?_cons_succ, List.getElem?_cons_zero, getD_fr, bind_ok, hok1, gAdd_i, lift_some, q2', hsum, hok2, hcut]
        rw [seq_step st1, gApp_st (i := 5) (xs0 := (ls.map lD).map .fr) (xs := ls.map lD) (d := lD ((C.take (f + 2 + r)).drop f)) (e1 := [a0, some (Dr xs (k' + 2)), a2, some (.fr (lD C)), a4, some (oL ls), some (.fr (iN d)), a7, a8, a9, a10, a11, a12, a13, some (.fr (iN f)), none, a16]) rfl (by rw [lCons_ap, hsl]; rfl) rfl (by rw [List.length_map, sz_v]; omega), go_nx]
        obtain ⟨g1, g2⟩ := cut_len C (f := f) (r := r) (by omega)
        refine ⟨k' + 2, ls ++ [(C.take (f + 2 + r)).drop f], some (.fr (iN d)), some (.fr (iN f)), by rw [oL_snoc]; rfl, by rw [List.length_append]; show ls.length + 1 ≤ _; omega, fun l hl => ?_⟩
        rcases List.mem_append.mp hl with q | q
        · exact h2 l q
        · rw [List.mem_singleton] at q
          rw [q]
          have hsub : ((C.take (f + 2 + r)).drop f).Sublist C := (List.drop_sublist _ _).trans (List.take_sublist _ _)
          exact ⟨g1, by omega, hnd.sublist hsub, fun c hc => hcel c (hsub.subset hc)⟩
      · rw [decide_eq_false (by omega), if_neg Bool.false_ne_true, sNx_ap, go_nx]
        exact ⟨k', ls, _, b14, rfl, by omega, h2⟩) ⟨k, [], a6, a14, rfl, Nat.le_refl _, fun l hl => nomatch hl⟩
  rw [List.length_range] at h1
  exact ⟨k', ls, b6, b14, q, by omega, h2⟩
/-! the entries -/
theorem entries_i {xs : List Int} {S : Gr} {h w : Nat} (p : Shp S h w csS) (k n : Nat) : ∃ (k' : Nat) (Es : List Gr), compL (uN 6) tT (eCall 2 [0] fn_law_entry (aIo 1 (aCons (eV 2) aNil))) [6] ((List.range n).map iN) [a0, some (Dr xs k), some (.fr (gD S)), a3, a4, a5, none, a7, a8, a9, a10, a11, a12, a13, a14, none, a16] = .ok (Es.map gD) [a0, some (Dr xs k'), some (.fr (gD S)), a3, a4, a5, none, a7, a8, a9, a10, a11, a12, a13, a14, none, a16] ∧ Es.length = n ∧ ∀ E ∈ Es, Ent S E h w := by
  obtain ⟨zs, e', q1, ⟨k', Es, rfl, hzs, hE⟩, q3⟩ := comp_st (u := uN 6) (f := eCall 2 [0] fn_law_entry (aIo 1 (aCons (eV 2) aNil))) (own := [6]) (g := iN)
    (fun ys e => ∃ (k' : Nat) (Es : List Gr), e = [a0, some (Dr xs k'), some (.fr (gD S)), a3, a4, a5, none, a7, a8, a9, a10, a11, a12, a13, a14, none, a16] ∧ ys = Es.map gD ∧ ∀ E ∈ Es, Ent S E h w) (List.range n) [] [a0, some (Dr xs k), some (.fr (gD S)), a3, a4, a5, none, a7, a8, a9, a10, a11, a12, a13, a14, none, a16]
    (fun d _ ys e ⟨k', Es, h3, h4, h5⟩ => by
      subst h3
      subst h4
      obtain ⟨E, k2, f, q, hf, hE⟩ := entry_i (xs := xs) k' p
      refine ⟨[(6, iN d)], rfl, ?_⟩
      have hc : eCall 2 [0] fn_law_entry (aIo 1 (aCons (eV 2) aNil)) [a0, some (Dr xs k'), some (.fr (gD S)), a3, a4, a5, some (.fr (iN d)), a7, a8, a9, a10, a11, a12, a13, a14, none, a16] = .ok (gD E) [a0, some (Dr xs k2), some (.fr (gD S)), a3, a4, a5, some (.fr (iN d)), a7, a8, a9, a10, a11, a12, a13, a14, none, a16] := by
        rw [call_ap, aIo_ap (o := Dr xs k') rfl]
        simp -implicitDefEqProofs only [aCons_ap, aNil_ap, eV_ap, List.getElem?_cons_succ, List.getElem?_cons_zero, getD_fr, bind_ok]
        rw [args_inr (o := Dr xs k') _ rfl]
        simp -implicitDefEqProofs only [args_inl, args_nil, Option.map_some, Option.elim_some, List.length_cons, List.length_nil, nd_inr, nd_inl, nd_nil, List.all_cons, List.all_nil, Bool.and_self, and_self, if_true, q, back_ret, backA_inr, backA_inl, backA_nil, hf, List.mem_singleton, Option.join_some, List.set_cons_succ, List.set_cons_zero]
      simp -implicitDefEqProofs only [setEv_cons, setEv_nil, List.set_cons_succ, List.set_cons_zero, hc, gets_ok, wipe_cons, wipe_nil]
      refine ⟨k2, Es ++ [E], rfl, by rw [List.map_append]; rfl, fun x hx => ?_⟩
      rcases List.mem_append.mp hx with q | q
      · exact h5 x q
      · rw [List.mem_singleton] at q
        rw [q]
        exact hE) ⟨k, [], rfl, rfl, (fun (r : Gr) (hr : r ∈ ([] : List Gr)) => nomatch hr)⟩
  rw [List.nil_append] at hzs
  subst hzs
  rw [List.length_map, List.length_range] at q3
  exact ⟨k', Es, q1, q3, hE⟩
/-! each entry is marked -/
theorem vals_i {S : Gr} {h w : Nat} {Es : List Gr} {ls : List (List Cl)} (hE : ∀ E ∈ Es, Ent S E h w) (hn : Es.length ≤ 200) (hl : Lts S h w ls) : ∃ b5 b6 b12, O.fz b5 = some (ltD ls) ∧ forL (uN 6) lp_law_2 ((List.range Es.length).map iN) [a0, a1, some (.fr (gD S)), a3, a4, some (oL ls), a6, some (.fr (esD Es)), some (oQ []), a9, a10, a11, a12, a13, a14, none, a16] = .nx [a0, a1, some (.fr (gD S)), a3, a4, some b5, b6, some (.fr (esD Es)), some (oQ (keys S h w ls Es Es.length)), a9, a10, a11, b12, a13, a14, none, a16] := by
  have hfd : ∀ d : PyData, O.fz (.fr d) = some d := fun d => by rw [O.fz]
  have hfL : O.fz (oL ls) = some (ltD ls) := by rw [O.fz, fzL_frs]; rfl
  have h4s : (4 : Nat) ≤ sz := by rw [sz_v]; omega
  obtain ⟨e', q, b5, b6, b12, rfl, hb⟩ := for_go (u := uN 6) (g := lp_law_2) (gd := iN) (fun i e => ∃ b5 b6 b12, e = [a0, a1, some (.fr (gD S)), a3, a4, some b5, b6, some (.fr (esD Es)), some (oQ (keys S h w ls Es i)), a9, a10, a11, b12, a13, a14, none, a16] ∧ O.fz b5 = some (ltD ls)) (l := List.range Es.length) (e := [a0, a1, some (.fr (gD S)), a3, a4, some (oL ls), a6, some (.fr (esD Es)), some (oQ []), a9, a10, a11, a12, a13, a14, none, a16])
    (fun i d e hd ⟨b5, b6, b12, he, hb⟩ => by
      subst he
      have hil := (List.getElem?_eq_some_iff.mp hd).1
      rw [List.length_range] at hil
      have : d = i := by
        rw [List.getElem?_range hil] at hd
        exact (Option.some.inj hd).symm
      subst this
      refine ⟨[(6, iN d)], rfl, ?_⟩
      show (lp_law_2 [a0, a1, some (.fr (gD S)), a3, a4, some b5, some (.fr (iN d)), some (.fr (esD Es)), some (oQ (keys S h w ls Es d)), a9, a10, a11, b12, a13, a14, none, a16]).go _
      have hEm := getD_mem (d := []) hil
      obtain ⟨f1, q1⟩ := lmarked_i (hE _ hEm) hl
      obtain ⟨f2, q2⟩ := marked_i (hE _ hEm) hl
      have hok := mkD_ok (hE _ hEm) hl
      have hix := gIx_m gD (l := Es) (i := d) [] hil
      have hlW := gLen_m cD (wr S (Es.getD d []) h w)
      have hlM := gLen_m cD (em (Es.getD d []) h w)
      have hlR := gLen_m iN (rt S (Es.getD d []) h w ls)
      have hk : key S h w ls Es d = ⟨-((rt S (Es.getD d []) h w ls).length : Nat), ((wr S (Es.getD d []) h w).length : Nat), ((em (Es.getD d []) h w).length : Nat), (d : Nat)⟩ := rfl
      have hkl2 := keys_len S h w ls Es d
      rw [keys_succ, hk]
      unfold mkD at q1 q2 hok
      generalize keys S h w ls Es d = K at *
      generalize wr S (Es.getD d []) h w = W at *
      generalize em (Es.getD d []) h w = M at *
      generalize rt S (Es.getD d []) h w ls = R at *
      generalize Es.getD d [] = E at *
      have i0 : gIx (.tuple [lD W, lD M, lN R]) (.int 0) = some (lD W) := rfl
      have i1 : gIx (.tuple [lD W, lD M, lN R]) (.int 1) = some (lD M) := rfl
      have i2 : gIx (.tuple [lD W, lD M, lN R]) (.int 2) = some (lN R) := rfl
      generalize hD : PyData.tuple [lD W, lD M, lN R] = D at *
      have hc1 := gcall (fn := fn_law_marked) (e := [a0, a1, some (.fr (gD S)), a3, a4, some b5, some (.fr (iN d)), some (.fr (esD Es)), some (oQ K), a9, a10, a11, b12, a13, a14, none, a16]) (its := aCons (eV 2) (aCons (e2 gIx (eV 7) (eV 6)) (aCons (eVF 5) aNil))) (ds := [gD S, gD E, ltD ls]) (n := 3) (e1 := [a0, a1, some (.fr (gD S)), a3, a4, some (.fr (ltD ls)), some (.fr (iN d)), some (.fr (esD Es)), some (oQ K), a9, a10, a11, b12, a13, a14, none, a16]) (by
        simp -implicitDefEqProofs only [aCons_ap, aNil_ap, e2_ap, eV_ap, eVF_ap, List.getElem?_cons_succ, List.getElem?_cons_zero, getD_fr, getF_some hb, bind_ok, hix, lift_some, List.map_cons, List.map_nil, List.set_cons_succ, List.set_cons_zero]) rfl q1
      have st1 : sSt 12 (eCall 3 [] fn_law_marked (aCons (eV 2) (aCons (e2 gIx (eV 7) (eV 6)) (aCons (eVF 5) aNil)))) [a0, a1, some (.fr (gD S)), a3, a4, some b5, some (.fr (iN d)), some (.fr (esD Es)), some (oQ K), a9, a10, a11, b12, a13, a14, none, a16] = .nx [a0, a1, some (.fr (gD S)), a3, a4, some (.fr (ltD ls)), some (.fr (iN d)), some (.fr (esD Es)), some (oQ K), a9, a10, a11, some (.fr D), a13, a14, none, a16] := by
        rw [sSt_ap, hc1]
        rfl
      have hc2 := gcall (fn := fn_marked) (e := [a0, a1, some (.fr (gD S)), a3, a4, some (.fr (ltD ls)), some (.fr (iN d)), some (.fr (esD Es)), some (oQ K), a9, a10, a11, some (.fr D), a13, a14, none, a16]) (its := aCons (eV 2) (aCons (e2 gIx (eV 7) (eV 6)) (aCons (eVF 5) aNil))) (ds := [gD S, gD E, ltD ls]) (n := 3) (e1 := [a0, a1, some (.fr (gD S)), a3, a4, some (.fr (ltD ls)), some (.fr (iN d)), some (.fr (esD Es)), some (oQ K), a9, a10, a11, some (.fr D), a13, a14, none, a16]) (by
        simp -implicitDefEqProofs only [aCons_ap, aNil_ap, e2_ap, eV_ap, eVF_ap, List.getElem?_cons_succ, List.getElem?_cons_zero, getD_fr, getF_some (hfd _), bind_ok, hix, lift_some, List.map_cons, List.map_nil, List.set_cons_succ, List.set_cons_zero]) rfl q2
      have ht := eqt (f1 := eCall 3 [] fn_marked (aCons (eV 2) (aCons (e2 gIx (eV 7) (eV 6)) (aCons (eVF 5) aNil)))) (f2 := eV 12) hc2 (show eV 12 [a0, a1, some (.fr (gD S)), a3, a4, some (.fr (ltD ls)), some (.fr (iN d)), some (.fr (esD Es)), some (oQ K), a9, a10, a11, some (.fr D), a13, a14, none, a16] = .ok D [a0, a1, some (.fr (gD S)), a3, a4, some (.fr (ltD ls)), some (.fr (iN d)), some (.fr (esD Es)), some (oQ K), a9, a10, a11, some (.fr D), a13, a14, none, a16] from rfl) hok
      have st2 : sIf (tNot2 (tTru (eCall 2 [] (fn_law_equal 8) (aCons (eCall 3 [] fn_marked (aCons (eV 2) (aCons (e2 gIx (eV 7) (eV 6)) (aCons (eVF 5) aNil)))) (aCons (eV 12) aNil))))) (sRt (eC (.bool false))) sNx [a0, a1, some (.fr (gD S)), a3, a4, some (.fr (ltD ls)), some (.fr (iN d)), some (.fr (esD Es)), some (oQ K), a9, a10, a11, some (.fr D), a13, a14, none, a16] = .nx [a0, a1, some (.fr (gD S)), a3, a4, some (.fr (ltD ls)), some (.fr (iN d)), some (.fr (esD Es)), some (oQ K), a9, a10, a11, some (.fr D), a13, a14, none, a16] := by
        rw [sIf_ap, ht]
        rfl
      unfold lp_law_2
      rw [seq_step st1, seq_step st2]
      rw [sApp_at (i := 8) (xs := K.map qD) (d := qD ⟨-(R.length : Nat), (W.length : Nat), (M.length : Nat), (d : Nat)⟩) rfl (by
        simp -implicitDefEqProofs only [eTup_ap, lCons_ap, lNil_ap, e1_ap, eL_ap, e2_ap, eC_ap, eV_ap, List.getElem?_cons_succ, List.getElem?_cons_zero, getD_fr, bind_ok, i0, i1, i2, hlR, hlW, hlM, gNeg_i, lift_some, List.length_cons, List.length_nil, Nat.zero_add, h4s, if_true]) (by rw [List.length_map, hkl2, sz_v]; omega), go_nx]
      exact ⟨.fr (ltD ls), some (.fr (iN d)), some (.fr D), by rw [oQ_snoc]; rfl, hfd _⟩) ⟨oL ls, a6, a12, rfl, hfL⟩
  rw [List.length_range] at q
  exact ⟨b5, b6, b12, hb, q⟩
end
end Lw

set_option Elab.async false
set_option linter.all false
set_option maxRecDepth 100000
set_option maxHeartbeats 4000000
set_option autoImplicit false
namespace Lw
open PySem PySem.Spec L2 Ly
def isR (s : Str) : FR → Bool
  | .ret (.str x) _ => decide (x = s)
  | _ => false
theorem isR_of {s : Str} {r : FR} (h : isR s r = true) : ∃ fin, r = .ret (.str s) fin := by
  cases r with
  | ret d fin =>
    cases d with
    | str x => exact ⟨fin, by rw [of_decide_eq_true h]⟩
    | _ => cases h
  | _ => cases h
def dsOf : Res (List PyData) → List PyData
  | .ok ds _ => ds
  | _ => []
abbrev bI0 : Ly.LM := (itm (eList (lCons (eList lNil) (lCons (eList (lCons (eC (.str ("a" : Str))) lNil)) (lCons (eList (lCons (eC (.str ("." : Str))) lNil)) (lCons (eList (lCons (eC (.str ("A" : Str))) (lCons (eC (.str ("AB" : Str))) lNil))) (lCons (eC .none) (lCons (eList (lCons (eC (.str ("" : Str))) lNil)) (lCons (eRep (lCons (eC (.str ("A" : Str))) lNil) (eC (.int 61))) (lCons (eList (lCons (e2 gRepS (eC (.str ("A" : Str))) (eC (.int 61))) lNil)) (lCons (eC (.str ("A" : Str))) (lCons (eList (lCons (eC (.int 1)) lNil)) lNil))))))))))))
def bads0 : List PyData := dsOf (bI0 [])
theorem bI0_ap (e : Ev) : bI0 e = .ok bads0 e := by kernel_rfl
abbrev bI1 : Ly.LM := (itm (eList (lCons (eList (lCons (eC (.str ("AB" : Str))) lNil)) (lCons (eList (lCons (eC (.str ("A" : Str))) (lCons (eC (.str ("A" : Str))) lNil))) (lCons (eList (lCons (eC (.str ("#" : Str))) lNil)) (lCons (eList (lCons (eC (.str ("a" : Str))) lNil)) (lCons (eC .none) (lCons (eList lNil) (lCons (eC (.str ("A" : Str))) lNil)))))))))
def bads1 : List PyData := dsOf (bI1 [])
theorem bI1_ap (e : Ev) : bI1 e = .ok bads1 e := by kernel_rfl
abbrev bI2 : Ly.LM := (itm (eList (lCons (eC .none) (lCons (eList (lCons (eList (lCons (eTup (lCons (eC (.int 0)) (lCons (eC (.int 0)) lNil))) lNil)) lNil)) (lCons (eList (lCons (eList (lCons (eTup (lCons (eC (.int 0)) (lCons (eC (.int 0)) lNil))) (lCons (eTup (lCons (eC (.int 0)) (lCons (eC (.int 0)) lNil))) lNil))) lNil)) (lCons (eList (lCons (eList (lCons (eTup (lCons (eC (.int 0)) (lCons (eC (.int 0)) lNil))) (lCons (eTup (lCons (eC (.int 0)) (lCons (eC (.int 2)) lNil))) lNil))) lNil)) (lCons (eList (lCons (eList (lCons (eTup (lCons (eC (.int 0)) (lCons (eC (.int 0)) lNil))) (lCons (eTup (lCons (eC (.int 9)) (lCons (eC (.int 0)) lNil))) lNil))) lNil)) (lCons (eList (lCons (eList (lCons (eTup (lCons (eC (.int 0)) (lCons (eC (.int 0)) lNil))) (lCons (eList (lCons (eC (.int 0)) (lCons (eC (.int 1)) lNil))) lNil))) lNil)) (lCons (eList (lCons (eList lNil) lNil)) (lCons (eRep (lCons (eList (lCons (eTup (lCons (eC (.int 0)) (lCons (eC (.int 0)) lNil))) (lCons (eTup (lCons (eC (.int 0)) (lCons (eC (.int 1)) lNil))) lNil))) lNil) (eC (.int 201))) lNil))))))))))
def bads2 : List PyData := dsOf (bI2 [])
theorem bI2_ap (e : Ev) : bI2 e = .ok bads2 e := by kernel_rfl
theorem ref0 : ([("marked" : Str), ("order" : Str)].all fun w => bads0.all fun b => isR ("puzzle" : Str) (fn_law_refused [.fr (.str w), .fr b, .fr (.list [.str ("A" : Str)]), .fr (.list [])])) = true := by decide +kernel
theorem ref1 : ([("marked" : Str), ("order" : Str)].all fun w => bads1.all fun b => isR ("puzzle" : Str) (fn_law_refused [.fr (.str w), .fr (.list [.str ("A" : Str)]), .fr b, .fr (.list [])])) = true := by decide +kernel
theorem ref2 : ([("marked" : Str), ("order" : Str)].all fun w => bads2.all fun b => isR ("rule" : Str) (fn_law_refused [.fr (.str w), .fr (.list [.str ("AB#" : Str)]), .fr (.list [.str ("AB#" : Str)]), .fr b])) = true := by decide +kernel
theorem ref3 : isR ("taken" : Str) (fn_law_refused [.fr (.str ("marked" : Str)), .fr (.list [.str ("AB#" : Str)]), .fr (.list [.str ("..#" : Str)]), .fr (.list [.list [.tuple [.int 0, .int 1], .tuple [.int 0, .int 0]]])]) = true := by decide +kernel
end Lw

set_option Elab.async false
set_option linter.all false
set_option maxRecDepth 100000
set_option maxHeartbeats 4000000
set_option autoImplicit false
namespace Lw
open PySem PySem.Spec L2 Ly
abbrev b0 : SM := (sStL 1 (lCons (eCall 1 [] fn_law_numbers (aCons (eV 0) aNil)) (lCons (eC (.int 0)) lNil)))
abbrev b1 : SM := (sPar 10 11 (lCons (e2 gAdd (eC (.int 1)) (eCall 2 [0] fn_law_draw (aIo 1 (aCons (eC (.int 4)) aNil)))) (lCons (e2 gAdd (eC (.int 1)) (eCall 2 [0] fn_law_draw (aIo 1 (aCons (eC (.int 5)) aNil)))) lNil)))
abbrev b2 : SM := (sSt 2 (eCall 3 [0] fn_law_sheet (aIo 1 (aCons (eV 10) (aCons (eV 11) aNil)))))
abbrev b3 : SM := (sSt 3 (eList lNil))
abbrev b4 : SM := (sFor (iL rng1 (lCons (eV 10) lNil)) (uN 4)
    lp_law_0)
abbrev b5 : SM := (sStL 5 lNil)
abbrev b6 : SM := (sFor (iL rng1 (lCons (eCall 2 [0] fn_law_draw (aIo 1 (aCons (eC (.int 4)) aNil))) lNil)) (uN 6)
    lp_law_1)
abbrev b7 : SM := (sSt 7 (eComp (iL rng1 (lCons (e2 gAdd (eC (.int 1)) (eCall 2 [0] fn_law_draw (aIo 1 (aCons (eC (.int 5)) aNil)))) lNil)) (uN 6) tT (eCall 2 [0] fn_law_entry (aIo 1 (aCons (eV 2) aNil))) [6]))
abbrev b8 : SM := (sStL 8 lNil)
abbrev b9 : SM := (sFor (iL rng1 (lCons (eL gLen (lCons (eV 7) lNil)) lNil)) (uN 6)
    lp_law_2)
abbrev b10 : SM := (sIf (tNot2 (tTru (eCall 2 [] (fn_law_equal 8) (aCons (eCall 3 [] fn_order_of_entries (aCons (eV 2) (aCons (eV 7) (aCons (eVF 5) aNil)))) (aCons (eComp (itm (eL gSortX (lCons (eVF 8) lNil))) (uN 16) tT (e2 gIx (eV 16) (eC (.int 3))) [16]) aNil))))) (sRt (eC (.bool false))) sNx)
abbrev b11 : SM := (sFor (itm (eTup (lCons (eC (.str ("marked" : Str))) (lCons (eC (.str ("order" : Str))) lNil)))) (uN 9)
    lp_law_6)
abbrev b12 : SM := (sRt (e2 gEq (eCall 4 [] fn_law_refused (aCons (eC (.str ("marked" : Str))) (aCons (eList (lCons (eC (.str ("AB#" : Str))) lNil)) (aCons (eList (lCons (eC (.str ("..#" : Str))) lNil)) (aCons (eList (lCons (eList (lCons (eTup (lCons (eC (.int 0)) (lCons (eC (.int 1)) lNil))) (lCons (eTup (lCons (eC (.int 0)) (lCons (eC (.int 0)) lNil))) lNil))) lNil)) aNil))))) (eC (.str ("taken" : Str)))))
abbrev g0 : SM := (sFor (itm (eList (lCons (eList lNil) (lCons (eList (lCons (eC (.str ("a" : Str))) lNil)) (lCons (eList (lCons (eC (.str ("." : Str))) lNil)) (lCons (eList (lCons (eC (.str ("A" : Str))) (lCons (eC (.str ("AB" : Str))) lNil))) (lCons (eC .none) (lCons (eList (lCons (eC (.str ("" : Str))) lNil)) (lCons (eRep (lCons (eC (.str ("A" : Str))) lNil) (eC (.int 61))) (lCons (eList (lCons (e2 gRepS (eC (.str ("A" : Str))) (eC (.int 61))) lNil)) (lCons (eC (.str ("A" : Str))) (lCons (eList (lCons (eC (.int 1)) lNil)) lNil)))))))))))) (uN 13)
    lp_law_3)
abbrev g1 : SM := (sFor (itm (eList (lCons (eList (lCons (eC (.str ("AB" : Str))) lNil)) (lCons (eList (lCons (eC (.str ("A" : Str))) (lCons (eC (.str ("A" : Str))) lNil))) (lCons (eList (lCons (eC (.str ("#" : Str))) lNil)) (lCons (eList (lCons (eC (.str ("a" : Str))) lNil)) (lCons (eC .none) (lCons (eList lNil) (lCons (eC (.str ("A" : Str))) lNil))))))))) (uN 13)
    lp_law_4)
abbrev g2 : SM := (sFor (itm (eList (lCons (eC .none) (lCons (eList (lCons (eList (lCons (eTup (lCons (eC (.int 0)) (lCons (eC (.int 0)) lNil))) lNil)) lNil)) (lCons (eList (lCons (eList (lCons (eTup (lCons (eC (.int 0)) (lCons (eC (.int 0)) lNil))) (lCons (eTup (lCons (eC (.int 0)) (lCons (eC (.int 0)) lNil))) lNil))) lNil)) (lCons (eList (lCons (eList (lCons (eTup (lCons (eC (.int 0)) (lCons (eC (.int 0)) lNil))) (lCons (eTup (lCons (eC (.int 0)) (lCons (eC (.int 2)) lNil))) lNil))) lNil)) (lCons (eList (lCons (eList (lCons (eTup (lCons (eC (.int 0)) (lCons (eC (.int 0)) lNil))) (lCons (eTup (lCons (eC (.int 9)) (lCons (eC (.int 0)) lNil))) lNil))) lNil)) (lCons (eList (lCons (eList (lCons (eTup (lCons (eC (.int 0)) (lCons (eC (.int 0)) lNil))) (lCons (eList (lCons (eC (.int 0)) (lCons (eC (.int 1)) lNil))) lNil))) lNil)) (lCons (eList (lCons (eList lNil) lNil)) (lCons (eRep (lCons (eList (lCons (eTup (lCons (eC (.int 0)) (lCons (eC (.int 0)) lNil))) (lCons (eTup (lCons (eC (.int 0)) (lCons (eC (.int 1)) lNil))) lNil))) lNil) (eC (.int 201))) lNil)))))))))) (uN 13)
    lp_law_5)
theorem fn_law_eq : fn_law = bodyFn 17 (sSeq b0 (sSeq b1 (sSeq b2 (sSeq b3 (sSeq b4 (sSeq b5 (sSeq b6 (sSeq b7 (sSeq b8 (sSeq b9 (sSeq b10 (sSeq b11 b12)))))))))))) := rfl
theorem lp6_eq : lp_law_6 = sSeq g0 (sSeq g1 g2) := rfl
theorem ref_if {e : Ev} {s : Str} {its : Ly.AM} {ds : List PyData} (hi : its e = .ok (ds.map .inl) e) (hn : ds.length = 4) (hr : isR s (fn_law_refused (ds.map .fr)) = true) (hne : gNe (.str s) (.str s) = some (.bool false)) : sIf (t2 gNe (eCall 4 [] fn_law_refused its) (eC (.str s))) (sRt (eC (.bool false))) sNx e = .nx e := by
  obtain ⟨f, q⟩ := isR_of hr
  have hc := gcall hi hn q
  simp -implicitDefEqProofs only [sIf_ap, t2_ap, e2_ap, hc, eC_ap, bind_ok, hne, lift_some, toB_b, out_ok, Bool.false_eq_true, if_false, sNx_ap]
theorem ne_p : gNe (.str ("puzzle" : Str)) (.str ("puzzle" : Str)) = some (.bool false) := by kernel_rfl
theorem ne_r : gNe (.str ("rule" : Str)) (.str ("rule" : Str)) = some (.bool false) := by kernel_rfl
section
variable {a0 a1 a2 a3 a4 a5 a6 a7 a8 a9 a10 a11 a12 a13 a14 a16 : Option O}
theorem gl0 {wh : Str} (hw : wh ∈ [("marked" : Str), ("order" : Str)]) : ∃ b13, g0 [a0, a1, a2, a3, a4, a5, a6, a7, a8, some (.fr (.str wh)), a10, a11, a12, a13, a14, none, a16] = .nx [a0, a1, a2, a3, a4, a5, a6, a7, a8, some (.fr (.str wh)), a10, a11, a12, b13, a14, none, a16] := by
  obtain ⟨e', q, b13, rfl⟩ := for_inv (u := uN 13) (g := lp_law_3) (fun e => ∃ b13, e = [a0, a1, a2, a3, a4, a5, a6, a7, a8, some (.fr (.str wh)), a10, a11, a12, b13, a14, none, a16]) (ds := bads0) (e := [a0, a1, a2, a3, a4, a5, a6, a7, a8, some (.fr (.str wh)), a10, a11, a12, a13, a14, none, a16])
    (fun d hd e ⟨b13, he⟩ => by
      subst he
      refine ⟨[(13, d)], rfl, ?_⟩
      have hr := List.all_eq_true.mp (List.all_eq_true.mp ref0 wh hw) d hd
      unfold lp_law_3
      have hrf := ref_if (e := [a0, a1, a2, a3, a4, a5, a6, a7, a8, some (.fr (.str wh)), a10, a11, a12, some (.fr d), a14, none, a16]) (its := aCons (eV 9) (aCons (eV 13) (aCons (eList (lCons (eC (.str ("A" : Str))) lNil)) (aCons (eList lNil) aNil)))) (ds := [.str wh, d, .list [.str ("A" : Str)], .list []]) rfl rfl hr ne_p
      show (sIf (t2 gNe (eCall 4 [] fn_law_refused (aCons (eV 9) (aCons (eV 13) (aCons (eList (lCons (eC (.str ("A" : Str))) lNil)) (aCons (eList lNil) aNil))))) _) _ _ [a0, a1, a2, a3, a4, a5, a6, a7, a8, some (.fr (.str wh)), a10, a11, a12, some (.fr d), a14, none, a16]).go _
      rw [hrf]
      exact ⟨_, rfl⟩) ⟨a13, rfl⟩
  exact ⟨b13, by
    show sFor bI0 (uN 13) lp_law_3 _ = _
    rw [sFor_ap, bI0_ap, out_ok, q]⟩
theorem gl1 {wh : Str} (hw : wh ∈ [("marked" : Str), ("order" : Str)]) : ∃ b13, g1 [a0, a1, a2, a3, a4, a5, a6, a7, a8, some (.fr (.str wh)), a10, a11, a12, a13, a14, none, a16] = .nx [a0, a1, a2, a3, a4, a5, a6, a7, a8, some (.fr (.str wh)), a10, a11, a12, b13, a14, none, a16] := by
  obtain ⟨e', q, b13, rfl⟩ := for_inv (u := uN 13) (g := lp_law_4) (fun e => ∃ b13, e = [a0, a1, a2, a3, a4, a5, a6, a7, a8, some (.fr (.str wh)), a10, a11, a12, b13, a14, none, a16]) (ds := bads1) (e := [a0, a1, a2, a3, a4, a5, a6, a7, a8, some (.fr (.str wh)), a10, a11, a12, a13, a14, none, a16])
    (fun d hd e ⟨b13, he⟩ => by
      subst he
      refine ⟨[(13, d)], rfl, ?_⟩
      have hr := List.all_eq_true.mp (List.all_eq_true.mp ref1 wh hw) d hd
      unfold lp_law_4
      have hrf := ref_if (e := [a0, a1, a2, a3, a4, a5, a6, a7, a8, some (.fr (.str wh)), a10, a11, a12, some (.fr d), a14, none, a16]) (its := aCons (eV 9) (aCons (eList (lCons (eC (.str ("A" : Str))) lNil)) (aCons (eV 13) (aCons (eList lNil) aNil)))) (ds := [.str wh, .list [.str ("A" : Str)], d, .list []]) rfl rfl hr ne_p
      show (sIf (t2 gNe (eCall 4 [] fn_law_refused (aCons (eV 9) (aCons (eList (lCons (eC (.str ("A" : Str))) lNil)) (aCons (eV 13) (aCons (eList lNil) aNil))))) _) _ _ [a0, a1, a2, a3, a4, a5, a6, a7, a8, some (.fr (.str wh)), a10, a11, a12, some (.fr d), a14, none, a16]).go _
      rw [hrf]
      exact ⟨_, rfl⟩) ⟨a13, rfl⟩
  exact ⟨b13, by
    show sFor bI1 (uN 13) lp_law_4 _ = _
    rw [sFor_ap, bI1_ap, out_ok, q]⟩
theorem gl2 {wh : Str} (hw : wh ∈ [("marked" : Str), ("order" : Str)]) : ∃ b13, g2 [a0, a1, a2, a3, a4, a5, a6, a7, a8, some (.fr (.str wh)), a10, a11, a12, a13, a14, none, a16] = .nx [a0, a1, a2, a3, a4, a5, a6, a7, a8, some (.fr (.str wh)), a10, a11, a12, b13, a14, none, a16] := by
  obtain ⟨e', q, b13, rfl⟩ := for_inv (u := uN 13) (g := lp_law_5) (fun e => ∃ b13, e = [a0, a1, a2, a3, a4, a5, a6, a7, a8, some (.fr (.str wh)), a10, a11, a12, b13, a14, none, a16]) (ds := bads2) (e := [a0, a1, a2, a3, a4, a5, a6, a7, a8, some (.fr (.str wh)), a10, a11, a12, a13, a14, none, a16])
    (fun d hd e ⟨b13, he⟩ => by
      subst he
      refine ⟨[(13, d)], rfl, ?_⟩
      have hr := List.all_eq_true.mp (List.all_eq_true.mp ref2 wh hw) d hd
      unfold lp_law_5
      have hrf := ref_if (e := [a0, a1, a2, a3, a4, a5, a6, a7, a8, some (.fr (.str wh)), a10, a11, a12, some (.fr d), a14, none, a16]) (its := aCons (eV 9) (aCons (eList (lCons (eC (.str ("AB#" : Str))) lNil)) (aCons (eList (lCons (eC (.str ("AB#" : Str))) lNil)) (aCons (eV 13) aNil)))) (ds := [.str wh, .list [.str ("AB#" : Str)], .list [.str ("AB#" : Str)], d]) rfl rfl hr ne_r
      show (sIf (t2 gNe (eCall 4 [] fn_law_refused (aCons (eV 9) (aCons (eList (lCons (eC (.str ("AB#" : Str))) lNil)) (aCons (eList (lCons (eC (.str ("AB#" : Str))) lNil)) (aCons (eV 13) aNil))))) _) _ _ [a0, a1, a2, a3, a4, a5, a6, a7, a8, some (.fr (.str wh)), a10, a11, a12, some (.fr d), a14, none, a16]).go _
      rw [hrf]
      exact ⟨_, rfl⟩) ⟨a13, rfl⟩
  exact ⟨b13, by
    show sFor bI2 (uN 13) lp_law_5 _ = _
    rw [sFor_ap, bI2_ap, out_ok, q]⟩
theorem what_i : ∃ b9 b13, b11 [a0, a1, a2, a3, a4, a5, a6, a7, a8, a9, a10, a11, a12, a13, a14, none, a16] = .nx [a0, a1, a2, a3, a4, a5, a6, a7, a8, b9, a10, a11, a12, b13, a14, none, a16] := by
  obtain ⟨e', q, b9, b13, rfl⟩ := for_inv (u := uN 9) (g := lp_law_6) (fun e => ∃ b9 b13, e = [a0, a1, a2, a3, a4, a5, a6, a7, a8, b9, a10, a11, a12, b13, a14, none, a16]) (ds := [("marked" : Str), ("order" : Str)].map PyData.str) (e := [a0, a1, a2, a3, a4, a5, a6, a7, a8, a9, a10, a11, a12, a13, a14, none, a16])
    (fun d hd e ⟨b9, b13, he⟩ => by
      subst he
      obtain ⟨wh, hw, rfl⟩ := List.mem_map.mp hd
      refine ⟨[(9, .str wh)], rfl, ?_⟩
      show (lp_law_6 [a0, a1, a2, a3, a4, a5, a6, a7, a8, some (.fr (.str wh)), a10, a11, a12, b13, a14, none, a16]).go _
      obtain ⟨c1, q1⟩ := gl0 (a0 := a0) (a1 := a1) (a2 := a2) (a3 := a3) (a4 := a4) (a5 := a5) (a6 := a6) (a7 := a7) (a8 := a8) (a10 := a10) (a11 := a11) (a12 := a12) (a13 := b13) (a14 := a14) (a16 := a16) hw
      obtain ⟨c2, q2⟩ := gl1 (a0 := a0) (a1 := a1) (a2 := a2) (a3 := a3) (a4 := a4) (a5 := a5) (a6 := a6) (a7 := a7) (a8 := a8) (a10 := a10) (a11 := a11) (a12 := a12) (a13 := c1) (a14 := a14) (a16 := a16) hw
      obtain ⟨c3, q3⟩ := gl2 (a0 := a0) (a1 := a1) (a2 := a2) (a3 := a3) (a4 := a4) (a5 := a5) (a6 := a6) (a7 := a7) (a8 := a8) (a10 := a10) (a11 := a11) (a12 := a12) (a13 := c2) (a14 := a14) (a16 := a16) hw
      rw [lp6_eq, seq_step q1, seq_step q2, q3, go_nx]
      exact ⟨_, _, rfl⟩) ⟨a9, a13, rfl⟩
  refine ⟨b9, b13, ?_⟩
  show sFor (itm (eTup (lCons (eC (.str ("marked" : Str))) (lCons (eC (.str ("order" : Str))) lNil)))) (uN 9) lp_law_6 _ = _
  have hit : itm (eTup (lCons (eC (.str ("marked" : Str))) (lCons (eC (.str ("order" : Str))) lNil))) [a0, a1, a2, a3, a4, a5, a6, a7, a8, a9, a10, a11, a12, a13, a14, none, a16] = .ok ([("marked" : Str), ("order" : Str)].map PyData.str) [a0, a1, a2, a3, a4, a5, a6, a7, a8, a9, a10, a11, a12, a13, a14, none, a16] := by kernel_rfl
  rw [sFor_ap, hit, out_ok, q]
theorem last_i : ∃ fin, (b12 [a0, a1, a2, a3, a4, a5, a6, a7, a8, a9, a10, a11, a12, a13, a14, none, a16]).fr = .ret (.bool true) fin := by
  obtain ⟨f, q⟩ := isR_of ref3
  have hi : aCons (eC (.str ("marked" : Str))) (aCons (eList (lCons (eC (.str ("AB#" : Str))) lNil)) (aCons (eList (lCons (eC (.str ("..#" : Str))) lNil)) (aCons (eList (lCons (eList (lCons (eTup (lCons (eC (.int 0)) (lCons (eC (.int 1)) lNil))) (lCons (eTup (lCons (eC (.int 0)) (lCons (eC (.int 0)) lNil))) lNil))) lNil)) aNil))) [a0, a1, a2, a3, a4, a5, a6, a7, a8, a9, a10, a11, a12, a13, a14, none, a16] = .ok (([.str ("marked" : Str), .list [.str ("AB#" : Str)], .list [.str ("..#" : Str)], .list [.list [.tuple [.int 0, .int 1], .tuple [.int 0, .int 0]]]] : List PyData).map .inl) [a0, a1, a2, a3, a4, a5, a6, a7, a8, a9, a10, a11, a12, a13, a14, none, a16] := by kernel_rfl
  have hc := gcall (n := 4) hi rfl q
  have hq : gEq (.str ("taken" : Str)) (.str ("taken" : Str)) = some (.bool true) := by kernel_rfl
  refine ⟨[a0, a1, a2, a3, a4, a5, a6, a7, a8, a9, a10, a11, a12, a13, a14, none, a16], ?_⟩
  show (sRt (e2 gEq (eCall 4 [] fn_law_refused _) (eC (.str ("taken" : Str)))) _).fr = _
  simp -implicitDefEqProofs only [sRt_ap, e2_ap, hc, eC_ap, bind_ok, hq, lift_some, out_ok, fr_rt]
end
theorem draw0 {xs : List Int} {k m : Nat} {e e1 : Ev} (hm : 1 ≤ m) (he : e[1]? = some (some (Dr xs k))) (h1 : e.set 1 (some (Dr xs (k + 1))) = e1) : ∃ r : Nat, e2 gAdd (eC (.int 1)) (eCall 2 [0] fn_law_draw (aIo 1 (aCons (eC (.int (m : Nat))) aNil))) e = .ok (.int ((1 + r : Nat) : Int)) e1 ∧ r < m := by
  obtain ⟨r, q, hr⟩ := dw (i := 1) (fm := eC (.int (m : Nat))) hm he rfl
  refine ⟨r, ?_, hr⟩
  have hs : (1 : Int) + (r : Nat) = ((1 + r : Nat) : Int) := by omega
  rw [e2_ap, eC_ap, bind_ok, q, bind_ok, gAdd_i, hs, h1]
  rfl
theorem law_true : LawTrue fn_law := by
  intro ns hl
  obtain ⟨xs, f1, q1, q2, q3⟩ := numbers_i hl
  have h2s : (2 : Nat) ≤ sz := by rw [sz_v]; omega
  obtain ⟨a0, ha0⟩ : ∃ a0, a0 = some (O.fr (.list (ns.map .int))) := ⟨_, rfl⟩
  have st0 : b0 [some (.fr (.list (ns.map .int))), none, none, none, none, none, none, none, none, none, none, none, none, none, none, none, none] = .nx [a0, some (Dr xs 0), none, none, none, none, none, none, none, none, none, none, none, none, none, none, none] := by
    rw [ha0]
    simp -implicitDefEqProofs only [sStL_ap, lCons_ap, lNil_ap, call_ap, aCons_ap, aNil_ap, eV_ap, eC_ap, List.getElem?_cons_succ, List.getElem?_cons_zero, getD_fr, bind_ok, args_inl, args_nil, Option.map_some, Option.elim_some, List.length_cons, List.length_nil, nd_inl, nd_nil, and_self, if_true, q1, back_ret, backA_inl, backA_nil, out_ok, Nat.zero_add, h2s, List.map_cons, List.map_nil, List.set_cons_succ, List.set_cons_zero]
    rfl
  obtain ⟨rh, d1, hrh⟩ := draw0 (xs := xs) (k := 0) (m := 4) (e := [a0, some (Dr xs 0), none, none, none, none, none, none, none, none, none, none, none, none, none, none, none]) (e1 := [a0, some (Dr xs 1), none, none, none, none, none, none, none, none, none, none, none, none, none, none, none]) (by omega) rfl rfl
  obtain ⟨rw', d2, hrw⟩ := draw0 (xs := xs) (k := 1) (m := 5) (e := [a0, some (Dr xs 1), none, none, none, none, none, none, none, none, none, none, none, none, none, none, none]) (e1 := [a0, some (Dr xs 2), none, none, none, none, none, none, none, none, none, none, none, none, none, none, none]) (by omega) rfl rfl
  have hh1 : 1 ≤ 1 + rh := by omega
  have hh2 : 1 + rh ≤ 60 := by omega
  have hw1 : 1 ≤ 1 + rw' := by omega
  have hw2 : 1 + rw' ≤ 60 := by omega
  generalize 1 + rh = h at *
  generalize 1 + rw' = w at *
  have st1 : b1 [a0, some (Dr xs 0), none, none, none, none, none, none, none, none, none, none, none, none, none, none, none] = .nx [a0, some (Dr xs 2), none, none, none, none, none, none, none, none, some (.fr (iN h)), some (.fr (iN w)), none, none, none, none, none] := by
    have hl2 : lCons (e2 gAdd (eC (.int 1)) (eCall 2 [0] fn_law_draw (aIo 1 (aCons (eC (.int 4)) aNil)))) (lCons (e2 gAdd (eC (.int 1)) (eCall 2 [0] fn_law_draw (aIo 1 (aCons (eC (.int 5)) aNil)))) lNil) [a0, some (Dr xs 0), none, none, none, none, none, none, none, none, none, none, none, none, none, none, none] = .ok [iN h, iN w] [a0, some (Dr xs 2), none, none, none, none, none, none, none, none, none, none, none, none, none, none, none] := by
      have d1 : e2 gAdd (eC (.int 1)) (eCall 2 [0] fn_law_draw (aIo 1 (aCons (eC (.int 4)) aNil))) [a0, some (Dr xs 0), none, none, none, none, none, none, none, none, none, none, none, none, none, none, none] = _ := d1
      have d2 : e2 gAdd (eC (.int 1)) (eCall 2 [0] fn_law_draw (aIo 1 (aCons (eC (.int 5)) aNil))) [a0, some (Dr xs 1), none, none, none, none, none, none, none, none, none, none, none, none, none, none, none] = _ := d2
      simp -implicitDefEqProofs only [lCons_ap, d1, bind_ok, d2, lNil_ap]
    rw [show b1 = sPar 10 11 _ from rfl, sPar_a, hl2]
    rfl
  obtain ⟨S, k2, f2, s1, s2, pS⟩ := sheet_i (xs := xs) 2 hh1 hh2 hw1 hw2
  have st2 : b2 [a0, some (Dr xs 2), none, none, none, none, none, none, none, none, some (.fr (iN h)), some (.fr (iN w)), none, none, none, none, none] = .nx [a0, some (Dr xs k2), some (.fr (gD S)), none, none, none, none, none, none, none, some (.fr (iN h)), some (.fr (iN w)), none, none, none, none, none] := by
    have hc : eCall 3 [0] fn_law_sheet (aIo 1 (aCons (eV 10) (aCons (eV 11) aNil))) [a0, some (Dr xs 2), none, none, none, none, none, none, none, none, some (.fr (iN h)), some (.fr (iN w)), none, none, none, none, none] = .ok (gD S) [a0, some (Dr xs k2), none, none, none, none, none, none, none, none, some (.fr (iN h)), some (.fr (iN w)), none, none, none, none, none] := by
      rw [call_ap, aIo_ap (o := Dr xs 2) rfl]
      simp -implicitDefEqProofs only [aCons_ap, aNil_ap, eV_ap, List.getElem?_cons_succ, List.getElem?_cons_zero, getD_fr, bind_ok]
      rw [args_inr (o := Dr xs 2) _ rfl]
      simp -implicitDefEqProofs only [args_inl, args_nil, Option.map_some, Option.elim_some, List.length_cons, List.length_nil, nd_inr, nd_inl, nd_nil, List.all_cons, List.all_nil, Bool.and_self, and_self, if_true, s1, back_ret, backA_inr, backA_inl, backA_nil, s2, List.mem_singleton, Option.join_some, List.set_cons_succ, List.set_cons_zero]
    rw [show b2 = sSt 2 _ from rfl, sSt_ap, hc]
    rfl
  have st3 : b3 [a0, some (Dr xs k2), some (.fr (gD S)), none, none, none, none, none, none, none, some (.fr (iN h)), some (.fr (iN w)), none, none, none, none, none] = .nx [a0, some (Dr xs k2), some (.fr (gD S)), some (.fr (lD [])), none, none, none, none, none, none, some (.fr (iN h)), some (.fr (iN w)), none, none, none, none, none] := rfl
  obtain ⟨c4, st4⟩ := cells_i (a0 := a0) (a1 := some (Dr xs k2)) (a4 := none) (a5 := none) (a6 := none) (a7 := none) (a8 := none) (a9 := none) (a12 := none) (a13 := none) (a14 := none) (a16 := none) pS
  have st5 : b5 [a0, some (Dr xs k2), some (.fr (gD S)), some (.fr (lD (cl S h w))), c4, none, none, none, none, none, some (.fr (iN h)), some (.fr (iN w)), none, none, none, none, none] = .nx [a0, some (Dr xs k2), some (.fr (gD S)), some (.fr (lD (cl S h w))), c4, some (oL []), none, none, none, none, some (.fr (iN h)), some (.fr (iN w)), none, none, none, none, none] := by
    rw [show b5 = sStL 5 lNil from rfl, sStL_ap, lNil_ap, out_ok, if_pos (show ([] : List PyData).length ≤ sz from Nat.zero_le _)]; rfl
  obtain ⟨n6, d6, hn6⟩ := dw (xs := xs) (k := k2) (i := 1) (m := 4) (e := [a0, some (Dr xs k2), some (.fr (gD S)), some (.fr (lD (cl S h w))), c4, some (oL []), none, none, none, none, some (.fr (iN h)), some (.fr (iN w)), none, none, none, none, none]) (fm := eC (.int 4)) (by omega) rfl rfl
  have d6 : eCall 2 [0] fn_law_draw (aIo 1 (aCons (eC (.int 4)) aNil)) [a0, some (Dr xs k2), some (.fr (gD S)), some (.fr (lD (cl S h w))), c4, some (oL []), none, none, none, none, some (.fr (iN h)), some (.fr (iN w)), none, none, none, none, none] = .ok (.int (n6 : Nat)) [a0, some (Dr xs (k2 + 1)), some (.fr (gD S)), some (.fr (lD (cl S h w))), c4, some (oL []), none, none, none, none, some (.fr (iN h)), some (.fr (iN w)), none, none, none, none, none] := d6
  obtain ⟨k6, ls, c6, c14, g6, hls⟩ := lights_i (xs := xs) (S := S) (h := h) (w := w) (k2 + 1) n6 (by omega) hh2 hw2 (a0 := a0) (a2 := some (.fr (gD S))) (a4 := c4) (a6 := none) (a7 := none) (a8 := none) (a9 := none) (a10 := some (.fr (iN h))) (a11 := some (.fr (iN w))) (a12 := none) (a13 := none) (a14 := none) (a16 := none)
  have hr6 : rng1 [.int (n6 : Nat)] = some ((List.range n6).map iN) := by
    rw [show rng1 [.int (n6 : Nat)] = some (rngL 0 (n6 : Nat)) from rng1_i (by omega) (by omega), rngL_0]
  have st6 : b6 [a0, some (Dr xs k2), some (.fr (gD S)), some (.fr (lD (cl S h w))), c4, some (oL []), none, none, none, none, some (.fr (iN h)), some (.fr (iN w)), none, none, none, none, none] = .nx [a0, some (Dr xs k6), some (.fr (gD S)), some (.fr (lD (cl S h w))), c4, some (oL ls), c6, none, none, none, some (.fr (iN h)), some (.fr (iN w)), none, none, c14, none, none] := by
    simp -implicitDefEqProofs only [sFor_ap, iL_ap, lCons_ap, lNil_ap, d6, bind_ok, lift_some, hr6, out_ok, g6]
  obtain ⟨n7, d7, hn7⟩ := draw0 (xs := xs) (k := k6) (m := 5) (e := [a0, some (Dr xs k6), some (.fr (gD S)), some (.fr (lD (cl S h w))), c4, some (oL ls), c6, none, none, none, some (.fr (iN h)), some (.fr (iN w)), none, none, c14, none, none]) (e1 := [a0, some (Dr xs (k6 + 1)), some (.fr (gD S)), some (.fr (lD (cl S h w))), c4, some (oL ls), c6, none, none, none, some (.fr (iN h)), some (.fr (iN w)), none, none, c14, none, none]) (by omega) rfl rfl
  have d7 : e2 gAdd (eC (.int 1)) (eCall 2 [0] fn_law_draw (aIo 1 (aCons (eC (.int 5)) aNil))) [a0, some (Dr xs k6), some (.fr (gD S)), some (.fr (lD (cl S h w))), c4, some (oL ls), c6, none, none, none, some (.fr (iN h)), some (.fr (iN w)), none, none, c14, none, none] = _ := d7
  obtain ⟨k7, Es, g7, hEl, hEs⟩ := entries_i (xs := xs) pS (k6 + 1) (1 + n7) (a0 := a0) (a3 := some (.fr (lD (cl S h w)))) (a4 := c4) (a5 := some (oL ls)) (a7 := none) (a8 := none) (a9 := none) (a10 := some (.fr (iN h))) (a11 := some (.fr (iN w))) (a12 := none) (a13 := none) (a14 := c14) (a16 := none)
  have hr7 : rng1 [.int ((1 + n7 : Nat) : Int)] = some ((List.range (1 + n7)).map iN) := by
    rw [show rng1 [.int ((1 + n7 : Nat) : Int)] = some (rngL 0 ((1 + n7 : Nat) : Int)) from rng1_i (by omega) (by omega), rngL_0]
  have hz7 : ((List.range (1 + n7)).map iN).length ≤ sz := by rw [List.length_map, List.length_range, sz_v]; omega
  obtain ⟨c7, hc6⟩ : ∃ c7, frO (some c6) = c7 := ⟨_, rfl⟩
  have st7 : b7 [a0, some (Dr xs k6), some (.fr (gD S)), some (.fr (lD (cl S h w))), c4, some (oL ls), c6, none, none, none, some (.fr (iN h)), some (.fr (iN w)), none, none, c14, none, none] = .nx [a0, some (Dr xs k7), some (.fr (gD S)), some (.fr (lD (cl S h w))), c4, some (oL ls), c7, some (.fr (esD Es)), none, none, some (.fr (iN h)), some (.fr (iN w)), none, none, c14, none, none] := by
    rw [show b7 = sSt 7 (eComp (iL rng1 (lCons (e2 gAdd (eC (.int 1)) (eCall 2 [0] fn_law_draw (aIo 1 (aCons (eC (.int 5)) aNil)))) lNil)) (uN 6) tT (eCall 2 [0] fn_law_entry (aIo 1 (aCons (eV 2) aNil))) [6]) from rfl, sSt_ap, eComp_ap, iL_ap, lCons_ap, d7]
    simp -implicitDefEqProofs only [bind_ok, lNil_ap, hr7, lift_some, hz7, if_true, wipe_cons, wipe_nil, List.set_cons_succ, List.set_cons_zero, g7, rest_cons, rest_nil, List.getElem?_cons_succ, List.getElem?_cons_zero, hc6, out_ok]
  have st8 : b8 [a0, some (Dr xs k7), some (.fr (gD S)), some (.fr (lD (cl S h w))), c4, some (oL ls), c7, some (.fr (esD Es)), none, none, some (.fr (iN h)), some (.fr (iN w)), none, none, c14, none, none] = .nx [a0, some (Dr xs k7), some (.fr (gD S)), some (.fr (lD (cl S h w))), c4, some (oL ls), c7, some (.fr (esD Es)), some (oQ []), none, some (.fr (iN h)), some (.fr (iN w)), none, none, c14, none, none] := by
    rw [show b8 = sStL 8 lNil from rfl, sStL_ap, lNil_ap, out_ok, if_pos (show ([] : List PyData).length ≤ sz from Nat.zero_le _)]; rfl
  have hEn : Es.length ≤ 200 := by omega
  have hE1 : 1 ≤ Es.length := by omega
  obtain ⟨o5, c6', c12, ho5, g9⟩ := vals_i hEs hEn hls (a0 := a0) (a1 := some (Dr xs k7)) (a3 := some (.fr (lD (cl S h w)))) (a4 := c4) (a6 := c7) (a9 := none) (a10 := some (.fr (iN h))) (a11 := some (.fr (iN w))) (a12 := none) (a13 := none) (a14 := c14) (a16 := none)
  have hr9 : rng1 [.int (Es.length : Nat)] = some ((List.range Es.length).map iN) := by
    rw [show rng1 [.int (Es.length : Nat)] = some (rngL 0 (Es.length : Nat)) from rng1_i (by omega) (by omega), rngL_0]
  have hlE := gLen_m gD Es
  have st9 : b9 [a0, some (Dr xs k7), some (.fr (gD S)), some (.fr (lD (cl S h w))), c4, some (oL ls), c7, some (.fr (esD Es)), some (oQ []), none, some (.fr (iN h)), some (.fr (iN w)), none, none, c14, none, none] = .nx [a0, some (Dr xs k7), some (.fr (gD S)), some (.fr (lD (cl S h w))), c4, some o5, c6', some (.fr (esD Es)), some (oQ (keys S h w ls Es Es.length)), none, some (.fr (iN h)), some (.fr (iN w)), c12, none, c14, none, none] := by
    simp -implicitDefEqProofs only [sFor_ap, iL_ap, lCons_ap, lNil_ap, eL_ap, eV_ap, List.getElem?_cons_succ, List.getElem?_cons_zero, getD_fr, bind_ok, hlE, lift_some, hr9, out_ok, g9]
  obtain ⟨m, hm, hml⟩ := sort_q (keys S h w ls Es Es.length)
  rw [keys_len] at hml
  have hmz : m.length ≤ sz := by rw [hml, sz_v]; omega
  obtain ⟨f10, q10⟩ := order_i hEs pS hE1 hEn hls hm hmz
  generalize keys S h w ls Es Es.length = K at *
  have hc10 := gcall (fn := fn_order_of_entries) (e := [a0, some (Dr xs k7), some (.fr (gD S)), some (.fr (lD (cl S h w))), c4, some o5, c6', some (.fr (esD Es)), some (oQ K), none, some (.fr (iN h)), some (.fr (iN w)), c12, none, c14, none, none]) (its := aCons (eV 2) (aCons (eV 7) (aCons (eVF 5) aNil))) (ds := [gD S, esD Es, ltD ls]) (n := 3) (e1 := [a0, some (Dr xs k7), some (.fr (gD S)), some (.fr (lD (cl S h w))), c4, some (.fr (ltD ls)), c6', some (.fr (esD Es)), some (oQ K), none, some (.fr (iN h)), some (.fr (iN w)), c12, none, c14, none, none]) (by
    simp -implicitDefEqProofs only [aCons_ap, aNil_ap, eV_ap, eVF_ap, List.getElem?_cons_succ, List.getElem?_cons_zero, getD_fr, getF_some ho5, bind_ok, List.map_cons, List.map_nil, List.set_cons_succ, List.set_cons_zero]) rfl q10
  have hmz2 : (m.map qD).length ≤ sz := by rw [List.length_map]; exact hmz
  have c10 : compL (uN 16) tT (e2 gIx (eV 16) (eC (.int 3))) [16] (m.map qD) [a0, some (Dr xs k7), some (.fr (gD S)), some (.fr (lD (cl S h w))), c4, some (.fr (ltD ls)), c6', some (.fr (esD Es)), some (.fr (.list (K.map qD))), none, some (.fr (iN h)), some (.fr (iN w)), c12, none, c14, none, none] = .ok (m.map fun t => .int t.d) [a0, some (Dr xs k7), some (.fr (gD S)), some (.fr (lD (cl S h w))), c4, some (.fr (ltD ls)), c6', some (.fr (esD Es)), some (.fr (.list (K.map qD))), none, some (.fr (iN h)), some (.fr (iN w)), c12, none, c14, none, none] := by
    exact comp_m (g := qD) (y := fun t => .int t.d) m fun t ht => ⟨[(16, qD t)], rfl, by
      have i3 : gIx (qD t) (.int 3) = some (.int t.d) := rfl
      simp -implicitDefEqProofs only [setEv_cons, setEv_nil, List.set_cons_succ, List.set_cons_zero, e2_ap, eV_ap, eC_ap, List.getElem?_cons_succ, List.getElem?_cons_zero, getD_fr, bind_ok, i3, lift_some, gets_ok, wipe_cons, wipe_nil, true_and]⟩
  have hs10 : eComp (itm (eL gSortX (lCons (eVF 8) lNil))) (uN 16) tT (e2 gIx (eV 16) (eC (.int 3))) [16] [a0, some (Dr xs k7), some (.fr (gD S)), some (.fr (lD (cl S h w))), c4, some (.fr (ltD ls)), c6', some (.fr (esD Es)), some (oQ K), none, some (.fr (iN h)), some (.fr (iN w)), c12, none, c14, none, none] = .ok (.list (m.map fun t => .int t.d)) [a0, some (Dr xs k7), some (.fr (gD S)), some (.fr (lD (cl S h w))), c4, some (.fr (ltD ls)), c6', some (.fr (esD Es)), some (.fr (.list (K.map qD))), none, some (.fr (iN h)), some (.fr (iN w)), c12, none, c14, none, none] := by
    simp -implicitDefEqProofs only [eComp_ap, itm_ap, eL_ap, lCons_ap, lNil_ap, eVF_ap, List.getElem?_cons_succ, List.getElem?_cons_zero, getF_some (fz_frs _), bind_ok, List.set_cons_succ, List.set_cons_zero, hm, lift_some, items_l, hmz2, if_true, wipe_cons, wipe_nil, c10, rest_cons, rest_nil, frO_none]
  have hok : Okd 4 (.list (m.map fun t => .int t.d)) := .list (by rw [List.length_map]; exact hmz) fun d hd => by
    obtain ⟨t, _, rfl⟩ := List.mem_map.mp hd
    exact .int _ _
  have ht := eqt hc10 hs10 hok
  have st10 : b10 [a0, some (Dr xs k7), some (.fr (gD S)), some (.fr (lD (cl S h w))), c4, some o5, c6', some (.fr (esD Es)), some (oQ K), none, some (.fr (iN h)), some (.fr (iN w)), c12, none, c14, none, none] = .nx [a0, some (Dr xs k7), some (.fr (gD S)), some (.fr (lD (cl S h w))), c4, some (.fr (ltD ls)), c6', some (.fr (esD Es)), some (.fr (.list (K.map qD))), none, some (.fr (iN h)), some (.fr (iN w)), c12, none, c14, none, none] := by
    show sIf (tNot2 (tTru (eCall 2 [] (fn_law_equal 8) (aCons (eCall 3 [] fn_order_of_entries (aCons (eV 2) (aCons (eV 7) (aCons (eVF 5) aNil)))) (aCons (eComp (itm (eL gSortX (lCons (eVF 8) lNil))) (uN 16) tT (e2 gIx (eV 16) (eC (.int 3))) [16]) aNil))))) (sRt (eC (.bool false))) sNx _ = _
    rw [sIf_ap, ht]
    rfl
  obtain ⟨b9', b13', st11⟩ := what_i (a0 := a0) (a1 := some (Dr xs k7)) (a2 := some (.fr (gD S))) (a3 := some (.fr (lD (cl S h w)))) (a4 := c4) (a5 := some (.fr (ltD ls))) (a6 := c6') (a7 := some (.fr (esD Es))) (a8 := some (.fr (.list (K.map qD)))) (a9 := none) (a10 := some (.fr (iN h))) (a11 := some (.fr (iN w))) (a12 := c12) (a13 := none) (a14 := c14) (a16 := none)
  obtain ⟨fin, st12⟩ := last_i (a0 := a0) (a1 := some (Dr xs k7)) (a2 := some (.fr (gD S))) (a3 := some (.fr (lD (cl S h w)))) (a4 := c4) (a5 := some (.fr (ltD ls))) (a6 := c6') (a7 := some (.fr (esD Es))) (a8 := some (.fr (.list (K.map qD)))) (a9 := b9') (a10 := some (.fr (iN h))) (a11 := some (.fr (iN w))) (a12 := c12) (a13 := b13') (a14 := c14) (a16 := none)
  refine ⟨fin, ?_⟩
  rw [fn_law_eq, body_st [some (.fr (.list (ns.map .int))), none, none, none, none, none, none, none, none, none, none, none, none, none, none, none, none], seq_step st0, seq_step st1, seq_step st2, seq_step st3, seq_step st4, seq_step st5, seq_step st6, seq_step st7, seq_step st8, seq_step st9, seq_step st10, seq_step st11, st12]
end Lw

set_option Elab.async false
set_option linter.all false
set_option maxRecDepth 100000
set_option maxHeartbeats 4000000
namespace Lw
open PySem PySem.Spec L2 Ly

def topS (i : Nat) : Stmt := PySem.Challenge.pw_everyclue_k64_entries_are_marked.main.body.getD i (.Pass ⟨0, 0, 0, 0⟩)
abbrev s_is_number : Stmt := topS 6
abbrev s_is_sheet : Stmt := topS 8
abbrev s_check_solution : Stmt := topS 9
abbrev s_check_entry : Stmt := topS 10
abbrev s_is_cell : Stmt := topS 11
abbrev s_check_lights : Stmt := topS 12
abbrev s_marks_of : Stmt := topS 13
abbrev s_marked : Stmt := topS 14
abbrev s_order_of_entries : Stmt := topS 15
abbrev s_law_mixed : Stmt := topS 17
abbrev s_law_numbers : Stmt := topS 18
abbrev s_law_draw : Stmt := topS 19
abbrev s_law_equal : Stmt := topS 20
abbrev s_law_all_equal : Stmt := topS 21
abbrev s_law_sheet : Stmt := topS 22
abbrev s_law_entry : Stmt := topS 23
abbrev s_law_marked : Stmt := topS 24
abbrev s_law_refused : Stmt := topS 25
abbrev s_law : Stmt := topS 26
theorem sc_is_number : FnScope [("value" : Str), ("low" : Str), ("high" : Str)] [("value" : Str), ("low" : Str), ("high" : Str)] (defScope s_is_number) := ⟨rfl, rfl, rfl, by decide +kernel, rfl, by decide +kernel, by decide +kernel⟩
theorem sc_is_sheet : FnScope [("value" : Str), ("signs" : Str), ("row" : Str), ("sign" : Str)] [("value" : Str), ("signs" : Str)] (defScope s_is_sheet) := ⟨rfl, rfl, rfl, by decide +kernel, rfl, by decide +kernel, by decide +kernel⟩
theorem sc_check_solution : FnScope [("solution" : Str)] [("solution" : Str)] (defScope s_check_solution) := ⟨rfl, rfl, rfl, by decide +kernel, rfl, by decide +kernel, by decide +kernel⟩
theorem sc_check_entry : FnScope [("solution" : Str), ("entry" : Str), ("i" : Str), ("j" : Str)] [("solution" : Str), ("entry" : Str)] (defScope s_check_entry) := ⟨rfl, rfl, rfl, by decide +kernel, rfl, by decide +kernel, by decide +kernel⟩
theorem sc_is_cell : FnScope [("value" : Str), ("solution" : Str)] [("value" : Str), ("solution" : Str)] (defScope s_is_cell) := ⟨rfl, rfl, rfl, by decide +kernel, rfl, by decide +kernel, by decide +kernel⟩
theorem sc_check_lights : FnScope [("solution" : Str), ("lights" : Str), ("light" : Str), ("cell" : Str)] [("solution" : Str), ("lights" : Str)] (defScope s_check_lights) := ⟨rfl, rfl, rfl, by decide +kernel, rfl, by decide +kernel, by decide +kernel⟩
theorem sc_marks_of : FnScope [("solution" : Str), ("entry" : Str), ("lights" : Str), ("wrong" : Str), ("empty" : Str), ("i" : Str), ("bad" : Str), ("right" : Str), ("j" : Str), ("cell" : Str), ("k" : Str)] [("solution" : Str), ("entry" : Str), ("lights" : Str)] (defScope s_marks_of) := ⟨rfl, rfl, rfl, by decide +kernel, rfl, by decide +kernel, by decide +kernel⟩
theorem sc_marked : FnScope [("solution" : Str), ("entry" : Str), ("lights" : Str)] [("solution" : Str), ("entry" : Str), ("lights" : Str)] (defScope s_marked) := ⟨rfl, rfl, rfl, by decide +kernel, rfl, by decide +kernel, by decide +kernel⟩
theorem sc_order_of_entries : FnScope [("solution" : Str), ("entries" : Str), ("lights" : Str), ("entry" : Str), ("keys" : Str), ("k" : Str), ("wrong" : Str), ("empty" : Str), ("right" : Str), ("key" : Str)] [("solution" : Str), ("entries" : Str), ("lights" : Str)] (defScope s_order_of_entries) := ⟨rfl, rfl, rfl, by decide +kernel, rfl, by decide +kernel, by decide +kernel⟩
theorem sc_law_mixed : FnScope [("number" : Str), ("k" : Str), ("step" : Str)] [("number" : Str), ("k" : Str)] (defScope s_law_mixed) := ⟨rfl, rfl, rfl, by decide +kernel, rfl, by decide +kernel, by decide +kernel⟩
theorem sc_law_numbers : FnScope [("script" : Str), ("numbers" : Str), ("cell" : Str), ("rest" : Str), ("k" : Str)] [("script" : Str)] (defScope s_law_numbers) := ⟨rfl, rfl, rfl, by decide +kernel, rfl, by decide +kernel, by decide +kernel⟩
theorem sc_law_draw : FnScope [("draws" : Str), ("many" : Str), ("at" : Str), ("first" : Str)] [("draws" : Str), ("many" : Str)] (defScope s_law_draw) := ⟨rfl, rfl, rfl, by decide +kernel, rfl, by decide +kernel, by decide +kernel⟩
theorem sc_law_equal : FnScope [("actual" : Str), ("due" : Str)] [("actual" : Str), ("due" : Str)] (defScope s_law_equal) := ⟨rfl, rfl, rfl, by decide +kernel, rfl, by decide +kernel, by decide +kernel⟩
theorem sc_law_all_equal : FnScope [("actual" : Str), ("due" : Str), ("k" : Str)] [("actual" : Str), ("due" : Str)] (defScope s_law_all_equal) := ⟨rfl, rfl, rfl, by decide +kernel, rfl, by decide +kernel, by decide +kernel⟩
theorem sc_law_sheet : FnScope [("draws" : Str), ("high" : Str), ("wide" : Str), ("r" : Str), ("c" : Str)] [("draws" : Str), ("high" : Str), ("wide" : Str)] (defScope s_law_sheet) := ⟨rfl, rfl, rfl, by decide +kernel, rfl, by decide +kernel, by decide +kernel⟩
theorem sc_law_entry : FnScope [("draws" : Str), ("solution" : Str), ("found" : Str), ("row" : Str), ("line" : Str), ("sign" : Str), ("pick" : Str)] [("draws" : Str), ("solution" : Str)] (defScope s_law_entry) := ⟨rfl, rfl, rfl, by decide +kernel, rfl, by decide +kernel, by decide +kernel⟩
theorem sc_law_marked : FnScope [("solution" : Str), ("entry" : Str), ("lights" : Str), ("squares" : Str), ("r" : Str), ("wrong" : Str), ("empty" : Str), ("right" : Str), ("square" : Str), ("k" : Str), ("c" : Str)] [("solution" : Str), ("entry" : Str), ("lights" : Str)] (defScope s_law_marked) := ⟨rfl, rfl, rfl, by decide +kernel, rfl, by decide +kernel, by decide +kernel⟩
theorem sc_law_refused : FnScope [("what" : Str), ("solution" : Str), ("entry" : Str), ("lights" : Str)] [("what" : Str), ("solution" : Str), ("entry" : Str), ("lights" : Str)] (defScope s_law_refused) := ⟨rfl, rfl, rfl, by decide +kernel, rfl, by decide +kernel, by decide +kernel⟩
theorem sc_law : FnScope [("script" : Str), ("draws" : Str), ("solution" : Str), ("cells" : Str), ("r" : Str), ("lights" : Str), ("k" : Str), ("entries" : Str), ("values" : Str), ("what" : Str), ("high" : Str), ("wide" : Str), ("due" : Str), ("bad" : Str), ("first" : Str), ("c" : Str), ("value" : Str)] [("script" : Str)] (defScope s_law) := ⟨rfl, rfl, rfl, by decide +kernel, rfl, by decide +kernel, by decide +kernel⟩
structure TX (K : PySem.W.Frag) (mg : MG) where
  f_is_number : Addr
  d_is_number : FuncData
  u_is_number : Fun K ("is_number" : Str) ("is_number" : Str) s_is_number f_is_number d_is_number
  b_is_number : Binds K d_is_number [("value" : Str), ("low" : Str), ("high" : Str)] []
  g_is_number : mg ("is_number" : Str) = some (.ref f_is_number)
  f_is_sheet : Addr
  d_is_sheet : FuncData
  u_is_sheet : Fun K ("is_sheet" : Str) ("is_sheet" : Str) s_is_sheet f_is_sheet d_is_sheet
  b_is_sheet : Binds K d_is_sheet [("value" : Str), ("signs" : Str)] []
  g_is_sheet : mg ("is_sheet" : Str) = some (.ref f_is_sheet)
  f_check_solution : Addr
  d_check_solution : FuncData
  u_check_solution : Fun K ("check_solution" : Str) ("check_solution" : Str) s_check_solution f_check_solution d_check_solution
  b_check_solution : Binds K d_check_solution [("solution" : Str)] []
  g_check_solution : mg ("check_solution" : Str) = some (.ref f_check_solution)
  f_check_entry : Addr
  d_check_entry : FuncData
  u_check_entry : Fun K ("check_entry" : Str) ("check_entry" : Str) s_check_entry f_check_entry d_check_entry
  b_check_entry : Binds K d_check_entry [("solution" : Str), ("entry" : Str)] []
  g_check_entry : mg ("check_entry" : Str) = some (.ref f_check_entry)
  f_is_cell : Addr
  d_is_cell : FuncData
  u_is_cell : Fun K ("is_cell" : Str) ("is_cell" : Str) s_is_cell f_is_cell d_is_cell
  b_is_cell : Binds K d_is_cell [("value" : Str), ("solution" : Str)] []
  g_is_cell : mg ("is_cell" : Str) = some (.ref f_is_cell)
  f_check_lights : Addr
  d_check_lights : FuncData
  u_check_lights : Fun K ("check_lights" : Str) ("check_lights" : Str) s_check_lights f_check_lights d_check_lights
  b_check_lights : Binds K d_check_lights [("solution" : Str), ("lights" : Str)] []
  g_check_lights : mg ("check_lights" : Str) = some (.ref f_check_lights)
  f_marks_of : Addr
  d_marks_of : FuncData
  u_marks_of : Fun K ("marks_of" : Str) ("marks_of" : Str) s_marks_of f_marks_of d_marks_of
  b_marks_of : Binds K d_marks_of [("solution" : Str), ("entry" : Str), ("lights" : Str)] []
  g_marks_of : mg ("marks_of" : Str) = some (.ref f_marks_of)
  f_marked : Addr
  d_marked : FuncData
  u_marked : Fun K ("marked" : Str) ("marked" : Str) s_marked f_marked d_marked
  b_marked : Binds K d_marked [("solution" : Str), ("entry" : Str), ("lights" : Str)] []
  g_marked : mg ("marked" : Str) = some (.ref f_marked)
  f_order_of_entries : Addr
  d_order_of_entries : FuncData
  u_order_of_entries : Fun K ("order_of_entries" : Str) ("order_of_entries" : Str) s_order_of_entries f_order_of_entries d_order_of_entries
  b_order_of_entries : Binds K d_order_of_entries [("solution" : Str), ("entries" : Str), ("lights" : Str)] []
  g_order_of_entries : mg ("order_of_entries" : Str) = some (.ref f_order_of_entries)
  f_law_mixed : Addr
  d_law_mixed : FuncData
  u_law_mixed : Fun K ("_law_mixed" : Str) ("_law_mixed" : Str) s_law_mixed f_law_mixed d_law_mixed
  b_law_mixed : Binds K d_law_mixed [("number" : Str), ("k" : Str)] []
  g_law_mixed : mg ("_law_mixed" : Str) = some (.ref f_law_mixed)
  f_law_numbers : Addr
  d_law_numbers : FuncData
  u_law_numbers : Fun K ("_law_numbers" : Str) ("_law_numbers" : Str) s_law_numbers f_law_numbers d_law_numbers
  b_law_numbers : Binds K d_law_numbers [("script" : Str)] []
  g_law_numbers : mg ("_law_numbers" : Str) = some (.ref f_law_numbers)
  f_law_draw : Addr
  d_law_draw : FuncData
  u_law_draw : Fun K ("_law_draw" : Str) ("_law_draw" : Str) s_law_draw f_law_draw d_law_draw
  b_law_draw : Binds K d_law_draw [("draws" : Str), ("many" : Str)] []
  g_law_draw : mg ("_law_draw" : Str) = some (.ref f_law_draw)
  f_law_equal : Addr
  d_law_equal : FuncData
  u_law_equal : Fun K ("_law_equal" : Str) ("_law_equal" : Str) s_law_equal f_law_equal d_law_equal
  b_law_equal : Binds K d_law_equal [("actual" : Str), ("due" : Str)] []
  g_law_equal : mg ("_law_equal" : Str) = some (.ref f_law_equal)
  f_law_all_equal : Addr
  d_law_all_equal : FuncData
  u_law_all_equal : Fun K ("_law_all_equal" : Str) ("_law_all_equal" : Str) s_law_all_equal f_law_all_equal d_law_all_equal
  b_law_all_equal : Binds K d_law_all_equal [("actual" : Str), ("due" : Str)] []
  g_law_all_equal : mg ("_law_all_equal" : Str) = some (.ref f_law_all_equal)
  f_law_sheet : Addr
  d_law_sheet : FuncData
  u_law_sheet : Fun K ("_law_sheet" : Str) ("_law_sheet" : Str) s_law_sheet f_law_sheet d_law_sheet
  b_law_sheet : Binds K d_law_sheet [("draws" : Str), ("high" : Str), ("wide" : Str)] []
  g_law_sheet : mg ("_law_sheet" : Str) = some (.ref f_law_sheet)
  f_law_entry : Addr
  d_law_entry : FuncData
  u_law_entry : Fun K ("_law_entry" : Str) ("_law_entry" : Str) s_law_entry f_law_entry d_law_entry
  b_law_entry : Binds K d_law_entry [("draws" : Str), ("solution" : Str)] []
  g_law_entry : mg ("_law_entry" : Str) = some (.ref f_law_entry)
  f_law_marked : Addr
  d_law_marked : FuncData
  u_law_marked : Fun K ("_law_marked" : Str) ("_law_marked" : Str) s_law_marked f_law_marked d_law_marked
  b_law_marked : Binds K d_law_marked [("solution" : Str), ("entry" : Str), ("lights" : Str)] []
  g_law_marked : mg ("_law_marked" : Str) = some (.ref f_law_marked)
  f_law_refused : Addr
  d_law_refused : FuncData
  u_law_refused : Fun K ("_law_refused" : Str) ("_law_refused" : Str) s_law_refused f_law_refused d_law_refused
  b_law_refused : Binds K d_law_refused [("what" : Str), ("solution" : Str), ("entry" : Str), ("lights" : Str)] []
  g_law_refused : mg ("_law_refused" : Str) = some (.ref f_law_refused)
  f_law : Addr
  d_law : FuncData
  u_law : Fun K ("law" : Str) ("law" : Str) s_law f_law d_law
  b_law : Binds K d_law [("script" : Str)] []
  g_law : mg ("law" : Str) = some (.ref f_law)
  z_bool : mg ("bool" : Str) = none
  z_int : mg ("int" : Str) = none
  z_isinstance : mg ("isinstance" : Str) = none
  z_len : mg ("len" : Str) = none
  z_list : mg ("list" : Str) = none
  z_range : mg ("range" : Str) = none
  z_set : mg ("set" : Str) = none
  z_sorted : mg ("sorted" : Str) = none
  z_str : mg ("str" : Str) = none
  z_tuple : mg ("tuple" : Str) = none
  k_LETTERS : Tok
  v_LETTERS : mg ("LETTERS" : Str) = some (.str ("ABCDEFGHIJKLMNOPQRSTUVWXYZ" : Str) k_LETTERS)
  c_BadRule : Addr
  m_BadRule : mg ("BadRule" : Str) = some (.ref c_BadRule)
  x_BadRule : PySem.W.excIn K c_BadRule [.type "ValueError", .type "Exception", .type "BaseException", .type "object"] "ValueError.__new__" = true
  k_BadRule : PySem.W.keepIn K (.ref c_BadRule) = true
  b_BadRule : PySem.W.subIn K (.ref c_BadRule) (.type "BaseException") = some true
  t_BadRule : PySem.W.typeIn K (.ref c_BadRule) = some (.type "type")
  c_BadPuzzle : Addr
  m_BadPuzzle : mg ("BadPuzzle" : Str) = some (.ref c_BadPuzzle)
  x_BadPuzzle : PySem.W.excIn K c_BadPuzzle [.type "ValueError", .type "Exception", .type "BaseException", .type "object"] "ValueError.__new__" = true
  k_BadPuzzle : PySem.W.keepIn K (.ref c_BadPuzzle) = true
  b_BadPuzzle : PySem.W.subIn K (.ref c_BadPuzzle) (.type "BaseException") = some true
  t_BadPuzzle : PySem.W.typeIn K (.ref c_BadPuzzle) = some (.type "type")
  sub : ∀ c h b C, subX c h = some b → mg c = some (.ref C) → PySem.W.exmOne K (.ref C) ((mg h).getD .none) = some b
section
variable {P : Program} {w : World} {K : PySem.W.Frag} {mg : MG} {base : Heap}
theorem ok_is_number (T : TX K mg) : FnOk P w K mg base (L2.CX P w) (1) T.f_is_number T.d_is_number [("value" : Str), ("low" : Str), ("high" : Str)] (spD K mg 3 [] fn_is_number) :=
  fn_ok T.u_is_number sc_is_number (by decide) fun cdv A outer s H E hr =>
    have tk := takes_of (X := cxOf (L2.CX P w) P w K mg base [("value" : Str), ("low" : Str), ("high" : Str)] ("is_number" : Str) (defScope s_is_number) T.f_is_number cdv A outer s H E) (E := E) rfl rfl rfl rfl
    have hp : PassesOwn (model P w) (A.deeper (PyProof.Rows.envOfC ("is_number" : Str) (defScope s_is_number) s.heap.objs.size T.f_is_number cdv)) (PyProof.Rows.envOfC ("is_number" : Str) (defScope s_is_number) s.heap.objs.size T.f_is_number cdv) (cxOf (L2.CX P w) P w K mg base [("value" : Str), ("low" : Str), ("high" : Str)] ("is_number" : Str) (defScope s_is_number) T.f_is_number cdv A outer s H E).xe := passes_of rfl
    (b_1 (s_ret (d_and (d_isi .int T.z_isinstance T.z_int (by decide +kernel) (dv 0)) (d_and (d_not (d_isi .bool T.z_isinstance T.z_bool (by decide +kernel) (dv 0))) (d_one (d_ch o_le n_le o_le n_le (dv 1) (dv 0) (dv 2)))))))
theorem ok_is_sheet (T : TX K mg) : FnOk P w K mg base (L2.CX P w) (1) T.f_is_sheet T.d_is_sheet [("value" : Str), ("signs" : Str)] (spD K mg 2 [] fn_is_sheet) :=
  fn_ok T.u_is_sheet sc_is_sheet (by decide) fun cdv A outer s H E hr =>
    have tk := takes_of (X := cxOf (L2.CX P w) P w K mg base [("value" : Str), ("signs" : Str), ("row" : Str), ("sign" : Str)] ("is_sheet" : Str) (defScope s_is_sheet) T.f_is_sheet cdv A outer s H E) (E := E) rfl rfl rfl rfl
    have hp : PassesOwn (model P w) (A.deeper (PyProof.Rows.envOfC ("is_sheet" : Str) (defScope s_is_sheet) s.heap.objs.size T.f_is_sheet cdv)) (PyProof.Rows.envOfC ("is_sheet" : Str) (defScope s_is_sheet) s.heap.objs.size T.f_is_sheet cdv) (cxOf (L2.CX P w) P w K mg base [("value" : Str), ("signs" : Str), ("row" : Str), ("sign" : Str)] ("is_sheet" : Str) (defScope s_is_sheet) T.f_is_sheet cdv A outer s H E).xe := passes_of rfl
    (b_c (s_if (t_w (w_or (t_not (t_tru (d_isi .list T.z_isinstance T.z_list (by decide +kernel) (dv 0)))) (w_or1 (t_not (t_ch o_le n_le o_le n_le dint (d_callB call_len n_len T.z_len PySem.boot_len (l_cons (dv 0) l_nil)) dint))))) (b_1 (s_ret dbl)) b_nil)
    (b_c (s_if (t_tru (d_comp (own := [(("row" : Str), 2)]) rfl sc_is_sheet.nd (i_any (dv 0)) (blkOk_by (N := [("value" : Str), ("signs" : Str), ("row" : Str), ("sign" : Str)]) (sc := defScope s_is_sheet) (by decide +kernel)) (fun _ _ _ _ _ => (g_n 2 sc_is_sheet.nd)) (fun _ _ _ _ _ => ts_1 (t_not (t_tru (d_isi .str T.z_isinstance T.z_str (by decide +kernel) (dv 2))))) (fun _ _ _ _ _ => (dv 2)))) (b_1 (s_ret dbl)) b_nil)
    (b_c (s_if (t_w (w_or (t_not (t_ch o_le n_le o_le n_le dint (d_callB call_len n_len T.z_len PySem.boot_len (l_cons (d_ix ix_seq n_ix (dv 0) dint) l_nil)) dint)) (w_or1 (t_tru (d_comp (own := [(("row" : Str), 2)]) rfl sc_is_sheet.nd (i_any (dv 0)) (blkOk_by (N := [("value" : Str), ("signs" : Str), ("row" : Str), ("sign" : Str)]) (sc := defScope s_is_sheet) (by decide +kernel)) (fun _ _ _ _ _ => (g_n 2 sc_is_sheet.nd)) (fun _ _ _ _ _ => ts_1 (t_cmp (op_neD hr.units) n_ne (d_callB call_len n_len T.z_len PySem.boot_len (l_cons (dv 2) l_nil)) (d_callB call_len n_len T.z_len PySem.boot_len (l_cons (d_ix ix_seq n_ix (dv 0) dint) l_nil)) (nomark _))) (fun _ _ _ _ _ => (dv 2))))))) (b_1 (s_ret dbl)) b_nil)
    (b_1 (s_ret (d_cmp (op_eqD hr.units) n_eq (d_comp (own := [(("row" : Str), 2)]) rfl sc_is_sheet.nd (i_any (dv 0)) (blkOk_by (N := [("value" : Str), ("signs" : Str), ("row" : Str), ("sign" : Str)]) (sc := defScope s_is_sheet) (by decide +kernel)) (fun _ _ _ _ _ => (g_n 2 sc_is_sheet.nd)) (fun _ _ _ _ _ => ts_1 (t_tru (d_comp (own := [(("sign" : Str), 3)]) rfl sc_is_sheet.nd (i_any (dv 2)) (blkOk_by (by kernel_rfl)) (fun _ _ _ _ _ => (g_n 3 sc_is_sheet.nd)) (fun _ _ _ _ _ => ts_1 (t_cmp (o_nin (rm65 hr)) n_nin (dv 3) (dv 1) (by rfl))) (fun _ _ _ _ _ => (dv 3))))) (fun _ _ _ _ _ => (dv 2))) (d_lst l_nil) (nomark _)))))))
theorem ok_check_solution (T : TX K mg) : FnOk P w K mg base (L2.CX P w) (2) T.f_check_solution T.d_check_solution [("solution" : Str)] (spD K mg 1 [] fn_check_solution) :=
  fn_ok T.u_check_solution sc_check_solution (by decide) fun cdv A outer s H E hr =>
    have tk := takes_of (X := cxOf (L2.CX P w) P w K mg base [("solution" : Str)] ("check_solution" : Str) (defScope s_check_solution) T.f_check_solution cdv A outer s H E) (E := E) rfl rfl rfl rfl
    have hp : PassesOwn (model P w) (A.deeper (PyProof.Rows.envOfC ("check_solution" : Str) (defScope s_check_solution) s.heap.objs.size T.f_check_solution cdv)) (PyProof.Rows.envOfC ("check_solution" : Str) (defScope s_check_solution) s.heap.objs.size T.f_check_solution cdv) (cxOf (L2.CX P w) P w K mg base [("solution" : Str)] ("check_solution" : Str) (defScope s_check_solution) T.f_check_solution cdv A outer s H E).xe := passes_of rfl
    (b_1 (s_if (t_not (t_tru (d_call (ok_is_sheet T) (hr.mono (by decide)) tk T.g_is_sheet T.u_is_sheet.kp T.b_is_sheet (a_cons (dv 0) (a_cons (d_op o_add n_add (d_gstr T.v_LETTERS) dstr) a_nil))))) (b_1 (s_raise rfl tk T.m_BadPuzzle (pmk_own PySem.F.excBase_ValueError T.x_BadPuzzle T.m_BadPuzzle T.k_BadPuzzle (raises_own T.b_BadPuzzle T.t_BadPuzzle) rfl))) b_nil))
theorem ok_check_entry (T : TX K mg) : FnOk P w K mg base (L2.CX P w) (2) T.f_check_entry T.d_check_entry [("solution" : Str), ("entry" : Str)] (spD K mg 2 [] fn_check_entry) :=
  fn_ok T.u_check_entry sc_check_entry (by decide) fun cdv A outer s H E hr =>
    have tk := takes_of (X := cxOf (L2.CX P w) P w K mg base [("solution" : Str), ("entry" : Str), ("i" : Str), ("j" : Str)] ("check_entry" : Str) (defScope s_check_entry) T.f_check_entry cdv A outer s H E) (E := E) rfl rfl rfl rfl
    have hp : PassesOwn (model P w) (A.deeper (PyProof.Rows.envOfC ("check_entry" : Str) (defScope s_check_entry) s.heap.objs.size T.f_check_entry cdv)) (PyProof.Rows.envOfC ("check_entry" : Str) (defScope s_check_entry) s.heap.objs.size T.f_check_entry cdv) (cxOf (L2.CX P w) P w K mg base [("solution" : Str), ("entry" : Str), ("i" : Str), ("j" : Str)] ("check_entry" : Str) (defScope s_check_entry) T.f_check_entry cdv A outer s H E).xe := passes_of rfl
    (b_c (s_if (t_w (w_or (t_not (t_tru (d_call (ok_is_sheet T) (hr.mono (by decide)) tk T.g_is_sheet T.u_is_sheet.kp T.b_is_sheet (a_cons (dv 1) (a_cons (d_op o_add n_add (d_gstr T.v_LETTERS) dstr) a_nil))))) (w_or (t_cmp (op_neD hr.units) n_ne (d_callB call_len n_len T.z_len PySem.boot_len (l_cons (dv 1) l_nil)) (d_callB call_len n_len T.z_len PySem.boot_len (l_cons (dv 0) l_nil)) (nomark _)) (w_or1 (t_cmp (op_neD hr.units) n_ne (d_callB call_len n_len T.z_len PySem.boot_len (l_cons (d_ix ix_seq n_ix (dv 1) dint) l_nil)) (d_callB call_len n_len T.z_len PySem.boot_len (l_cons (d_ix ix_seq n_ix (dv 0) dint) l_nil)) (nomark _)))))) (b_1 (s_raise rfl tk T.m_BadPuzzle (pmk_own PySem.F.excBase_ValueError T.x_BadPuzzle T.m_BadPuzzle T.k_BadPuzzle (raises_own T.b_BadPuzzle T.t_BadPuzzle) rfl))) b_nil)
    (b_1 (s_for hp rfl (i_r1 T.z_range (l_cons (d_callB call_len n_len T.z_len PySem.boot_len (l_cons (dv 1) l_nil)) l_nil)) (g_n 2 sc_check_entry.nd)
    (b_1 (s_if (t_tru (d_comp (own := [(("j" : Str), 3)]) rfl sc_check_entry.nd (i_r1 T.z_range (l_cons (d_callB call_len n_len T.z_len PySem.boot_len (l_cons (d_ix ix_seq n_ix (dv 1) (dv 2)) l_nil)) l_nil)) (blkOk_by (N := [("solution" : Str), ("entry" : Str), ("i" : Str), ("j" : Str)]) (sc := defScope s_check_entry) (by decide +kernel)) (fun _ _ _ _ _ => (g_n 3 sc_check_entry.nd)) (fun _ _ _ _ _ => ts_1 (t_cmp (op_neD hr.units) n_ne (d_cmp (op_eqD hr.units) n_eq (d_ix ix_seq n_ix (d_ix ix_seq n_ix (dv 1) (dv 2)) (dv 3)) dstr (nomark _)) (d_cmp (op_eqD hr.units) n_eq (d_ix ix_seq n_ix (d_ix ix_seq n_ix (dv 0) (dv 2)) (dv 3)) dstr (nomark _)) (nomark _))) (fun _ _ _ _ _ => (dv 3)))) (b_1 (s_raise rfl tk T.m_BadPuzzle (pmk_own PySem.F.excBase_ValueError T.x_BadPuzzle T.m_BadPuzzle T.k_BadPuzzle (raises_own T.b_BadPuzzle T.t_BadPuzzle) rfl))) b_nil)))))
theorem ok_is_cell (T : TX K mg) : FnOk P w K mg base (L2.CX P w) (2) T.f_is_cell T.d_is_cell [("value" : Str), ("solution" : Str)] (spD K mg 2 [] fn_is_cell) :=
  fn_ok T.u_is_cell sc_is_cell (by decide) fun cdv A outer s H E hr =>
    have tk := takes_of (X := cxOf (L2.CX P w) P w K mg base [("value" : Str), ("solution" : Str)] ("is_cell" : Str) (defScope s_is_cell) T.f_is_cell cdv A outer s H E) (E := E) rfl rfl rfl rfl
    have hp : PassesOwn (model P w) (A.deeper (PyProof.Rows.envOfC ("is_cell" : Str) (defScope s_is_cell) s.heap.objs.size T.f_is_cell cdv)) (PyProof.Rows.envOfC ("is_cell" : Str) (defScope s_is_cell) s.heap.objs.size T.f_is_cell cdv) (cxOf (L2.CX P w) P w K mg base [("value" : Str), ("solution" : Str)] ("is_cell" : Str) (defScope s_is_cell) T.f_is_cell cdv A outer s H E).xe := passes_of rfl
    (b_c (s_if (t_w (w_or (t_not (t_tru (d_isi .tuple T.z_isinstance T.z_tuple (by decide +kernel) (dv 0)))) (w_or (t_cmp (op_neD hr.units) n_ne (d_callB call_len n_len T.z_len PySem.boot_len (l_cons (dv 0) l_nil)) dint (nomark _)) (w_or1 (t_not (t_tru (d_call (ok_is_number T) (hr.mono (by decide)) tk T.g_is_number T.u_is_number.kp T.b_is_number (a_cons (d_ix ix_seq n_ix (dv 0) dint) (a_cons dint (a_cons (d_op op_sub n_sub (d_callB call_len n_len T.z_len PySem.boot_len (l_cons (dv 1) l_nil)) dint) a_nil)))))))))) (b_1 (s_ret dbl)) b_nil)
    (b_1 (s_ret (d_and (d_call (ok_is_number T) (hr.mono (by decide)) tk T.g_is_number T.u_is_number.kp T.b_is_number (a_cons (d_ix ix_seq n_ix (dv 0) dint) (a_cons dint (a_cons (d_op op_sub n_sub (d_callB call_len n_len T.z_len PySem.boot_len (l_cons (d_ix ix_seq n_ix (dv 1) dint) l_nil)) dint) a_nil)))) (d_one (d_cmp (op_neD hr.units) n_ne (d_ix ix_seq n_ix (d_ix ix_seq n_ix (dv 1) (d_ix ix_seq n_ix (dv 0) dint)) (d_ix ix_seq n_ix (dv 0) dint)) dstr (nomark _)))))))
theorem ok_check_lights (T : TX K mg) : FnOk P w K mg base (L2.CX P w) (3) T.f_check_lights T.d_check_lights [("solution" : Str), ("lights" : Str)] (spD K mg 2 [] fn_check_lights) :=
  fn_ok T.u_check_lights sc_check_lights (by decide) fun cdv A outer s H E hr =>
    have tk := takes_of (X := cxOf (L2.CX P w) P w K mg base [("solution" : Str), ("lights" : Str), ("light" : Str), ("cell" : Str)] ("check_lights" : Str) (defScope s_check_lights) T.f_check_lights cdv A outer s H E) (E := E) rfl rfl rfl rfl
    have hp : PassesOwn (model P w) (A.deeper (PyProof.Rows.envOfC ("check_lights" : Str) (defScope s_check_lights) s.heap.objs.size T.f_check_lights cdv)) (PyProof.Rows.envOfC ("check_lights" : Str) (defScope s_check_lights) s.heap.objs.size T.f_check_lights cdv) (cxOf (L2.CX P w) P w K mg base [("solution" : Str), ("lights" : Str), ("light" : Str), ("cell" : Str)] ("check_lights" : Str) (defScope s_check_lights) T.f_check_lights cdv A outer s H E).xe := passes_of rfl
    (b_c (s_if (t_w (w_or (t_not (t_tru (d_isi .list T.z_isinstance T.z_list (by decide +kernel) (dv 1)))) (w_or1 (t_cmp o_gt n_gt (d_callB call_len n_len T.z_len PySem.boot_len (l_cons (dv 1) l_nil)) dint (nomark _))))) (b_1 (s_raise rfl tk T.m_BadRule (pmk_own PySem.F.excBase_ValueError T.x_BadRule T.m_BadRule T.k_BadRule (raises_own T.b_BadRule T.t_BadRule) rfl))) b_nil)
    (b_1 (s_for hp rfl (i_any (dv 1)) (g_n 2 sc_check_lights.nd)
    (b_c (s_if (t_w (w_or (t_not (t_tru (d_isi .list T.z_isinstance T.z_list (by decide +kernel) (dv 2)))) (w_or (t_cmp o_lt n_lt (d_callB call_len n_len T.z_len PySem.boot_len (l_cons (dv 2) l_nil)) dint (nomark _)) (w_or1 (t_tru (d_comp (own := [(("cell" : Str), 3)]) rfl sc_check_lights.nd (i_any (dv 2)) (blkOk_by (N := [("solution" : Str), ("lights" : Str), ("light" : Str), ("cell" : Str)]) (sc := defScope s_check_lights) (by decide +kernel)) (fun _ _ _ _ _ => (g_n 3 sc_check_lights.nd)) (fun _ _ _ _ _ => ts_1 (t_not (t_tru (d_call (ok_is_cell T) (hr.mono (by decide)) takes0 T.g_is_cell T.u_is_cell.kp T.b_is_cell (a_cons (dv 3) (a_cons (dv 0) a_nil)))))) (fun _ _ _ _ _ => (dv 3)))))))) (b_1 (s_raise rfl tk T.m_BadRule (pmk_own PySem.F.excBase_ValueError T.x_BadRule T.m_BadRule T.k_BadRule (raises_own T.b_BadRule T.t_BadRule) rfl))) b_nil)
    (b_1 (s_if (t_cmp (op_neD hr.units) n_ne (d_lenSet (rm65 hr) T.z_len T.z_set (dv 2)) (d_callB call_len n_len T.z_len PySem.boot_len (l_cons (dv 2) l_nil)) (nomark _)) (b_1 (s_raise rfl tk T.m_BadRule (pmk_own PySem.F.excBase_ValueError T.x_BadRule T.m_BadRule T.k_BadRule (raises_own T.b_BadRule T.t_BadRule) rfl))) b_nil))))))
theorem ok_marks_of (T : TX K mg) : FnOk P w K mg base (L2.CX P w) (1) T.f_marks_of T.d_marks_of [("solution" : Str), ("entry" : Str), ("lights" : Str)] (spD K mg 3 [] fn_marks_of) :=
  fn_ok T.u_marks_of sc_marks_of (by decide) fun cdv A outer s H E hr =>
    have tk := takes_of (X := cxOf (L2.CX P w) P w K mg base [("solution" : Str), ("entry" : Str), ("lights" : Str), ("wrong" : Str), ("empty" : Str), ("i" : Str), ("bad" : Str), ("right" : Str), ("j" : Str), ("cell" : Str), ("k" : Str)] ("marks_of" : Str) (defScope s_marks_of) T.f_marks_of cdv A outer s H E) (E := E) rfl rfl rfl rfl
    have hp : PassesOwn (model P w) (A.deeper (PyProof.Rows.envOfC ("marks_of" : Str) (defScope s_marks_of) s.heap.objs.size T.f_marks_of cdv)) (PyProof.Rows.envOfC ("marks_of" : Str) (defScope s_marks_of) s.heap.objs.size T.f_marks_of cdv) (cxOf (L2.CX P w) P w K mg base [("solution" : Str), ("entry" : Str), ("lights" : Str), ("wrong" : Str), ("empty" : Str), ("i" : Str), ("bad" : Str), ("right" : Str), ("j" : Str), ("cell" : Str), ("k" : Str)] ("marks_of" : Str) (defScope s_marks_of) T.f_marks_of cdv A outer s H E).xe := passes_of rfl
    (b_c (s_setL 3 sc_marks_of.nd l_nil)
    (b_c (s_setL 4 sc_marks_of.nd l_nil)
    (b_c (s_for hp rfl (i_r1 T.z_range (l_cons (d_callB call_len n_len T.z_len PySem.boot_len (l_cons (dv 1) l_nil)) l_nil)) (g_n 5 sc_marks_of.nd)
    (b_1 (s_for hp rfl (i_r1 T.z_range (l_cons (d_callB call_len n_len T.z_len PySem.boot_len (l_cons (d_ix ix_seq n_ix (dv 1) (dv 5)) l_nil)) l_nil)) (g_n 8 sc_marks_of.nd)
    (b_1 (s_if (t_cmp (op_eqD hr.units) n_eq (d_ix ix_seq n_ix (d_ix ix_seq n_ix (dv 1) (dv 5)) (dv 8)) dstr (nomark _)) (b_1 (s_app 4 (l_cons (d_tup (l_cons (dv 5) (l_cons (dv 8) l_nil))) l_nil))) (b_1 (s_if (t_cmp (op_neD hr.units) n_ne (d_ix ix_seq n_ix (d_ix ix_seq n_ix (dv 1) (dv 5)) (dv 8)) (d_ix ix_seq n_ix (d_ix ix_seq n_ix (dv 0) (dv 5)) (dv 8)) (nomark _)) (b_1 (s_app 3 (l_cons (d_tup (l_cons (dv 5) (l_cons (dv 8) l_nil))) l_nil))) b_nil)))))))
    (b_c (s_set 6 sc_marks_of.nd (d_dc true (own := [(("cell" : Str), 9)]) (rm65 hr) rfl sc_marks_of.nd (i_any (d_op o_add n_add (dvf 3) (dvf 4))) (blkOk_by (N := [("solution" : Str), ("entry" : Str), ("lights" : Str), ("wrong" : Str), ("empty" : Str), ("i" : Str), ("bad" : Str), ("right" : Str), ("j" : Str), ("cell" : Str), ("k" : Str)]) (sc := defScope s_marks_of) (by decide +kernel)) (fun _ _ _ _ _ => (g_n 9 sc_marks_of.nd)) (fun _ _ _ _ _ => ts_n) (fun _ _ _ _ _ => (dv 9)) (fun _ _ _ _ _ => dbl)))
    (b_c (s_comp 7 (own := [(("k" : Str), 10)]) rfl sc_marks_of.nd (sw_true rfl rfl rfl (by decide +kernel)) (i_r1 T.z_range (l_cons (d_callB call_len n_len T.z_len PySem.boot_len (l_cons (dv 2) l_nil)) l_nil)) (blkOk_by (N := [("solution" : Str), ("entry" : Str), ("lights" : Str), ("wrong" : Str), ("empty" : Str), ("i" : Str), ("bad" : Str), ("right" : Str), ("j" : Str), ("cell" : Str), ("k" : Str)]) (sc := defScope s_marks_of) (by decide +kernel)) (fun _ _ _ _ _ => (g_n 10 sc_marks_of.nd)) (fun _ _ _ _ _ => ts_1 (t_cmp (op_eqD hr.units) n_eq (d_comp (own := [(("cell" : Str), 9)]) rfl sc_marks_of.nd (i_any (d_ix ix_seq n_ix (dv 2) (dv 10))) (blkOk_by (by kernel_rfl)) (fun _ _ _ _ _ => (g_n 9 sc_marks_of.nd)) (fun _ _ _ _ _ => ts_1 (t_din (rm65 hr) (dv 9) (dv 6))) (fun _ _ _ _ _ => (dv 9))) (d_lst l_nil) (nomark _))) (fun _ _ _ _ _ => (dv 10)))
    (b_1 (s_ret (d_tup (l_cons (dvf 3) (l_cons (dvf 4) (l_cons (dv 7) l_nil)))))))))))
theorem ok_marked (T : TX K mg) : FnOk P w K mg base (L2.CX P w) (4) T.f_marked T.d_marked [("solution" : Str), ("entry" : Str), ("lights" : Str)] (spD K mg 3 [] fn_marked) :=
  fn_ok T.u_marked sc_marked (by decide) fun cdv A outer s H E hr =>
    have tk := takes_of (X := cxOf (L2.CX P w) P w K mg base [("solution" : Str), ("entry" : Str), ("lights" : Str)] ("marked" : Str) (defScope s_marked) T.f_marked cdv A outer s H E) (E := E) rfl rfl rfl rfl
    have hp : PassesOwn (model P w) (A.deeper (PyProof.Rows.envOfC ("marked" : Str) (defScope s_marked) s.heap.objs.size T.f_marked cdv)) (PyProof.Rows.envOfC ("marked" : Str) (defScope s_marked) s.heap.objs.size T.f_marked cdv) (cxOf (L2.CX P w) P w K mg base [("solution" : Str), ("entry" : Str), ("lights" : Str)] ("marked" : Str) (defScope s_marked) T.f_marked cdv A outer s H E).xe := passes_of rfl
    (b_c (s_expr (d_call (ok_check_solution T) (hr.mono (by decide)) tk T.g_check_solution T.u_check_solution.kp T.b_check_solution (a_cons (dv 0) a_nil)))
    (b_c (s_expr (d_call (ok_check_entry T) (hr.mono (by decide)) tk T.g_check_entry T.u_check_entry.kp T.b_check_entry (a_cons (dv 0) (a_cons (dv 1) a_nil))))
    (b_c (s_expr (d_call (ok_check_lights T) (hr.mono (by decide)) tk T.g_check_lights T.u_check_lights.kp T.b_check_lights (a_cons (dv 0) (a_cons (dv 2) a_nil))))
    (b_1 (s_ret (d_call (ok_marks_of T) (hr.mono (by decide)) tk T.g_marks_of T.u_marks_of.kp T.b_marks_of (a_cons (dv 0) (a_cons (dv 1) (a_cons (dv 2) a_nil)))))))))
theorem ok_order_of_entries (T : TX K mg) : FnOk P w K mg base (L2.CX P w) (4) T.f_order_of_entries T.d_order_of_entries [("solution" : Str), ("entries" : Str), ("lights" : Str)] (spD K mg 3 [] fn_order_of_entries) :=
  fn_ok T.u_order_of_entries sc_order_of_entries (by decide) fun cdv A outer s H E hr =>
    have tk := takes_of (X := cxOf (L2.CX P w) P w K mg base [("solution" : Str), ("entries" : Str), ("lights" : Str), ("entry" : Str), ("keys" : Str), ("k" : Str), ("wrong" : Str), ("empty" : Str), ("right" : Str), ("key" : Str)] ("order_of_entries" : Str) (defScope s_order_of_entries) T.f_order_of_entries cdv A outer s H E) (E := E) rfl rfl rfl rfl
    have hp : PassesOwn (model P w) (A.deeper (PyProof.Rows.envOfC ("order_of_entries" : Str) (defScope s_order_of_entries) s.heap.objs.size T.f_order_of_entries cdv)) (PyProof.Rows.envOfC ("order_of_entries" : Str) (defScope s_order_of_entries) s.heap.objs.size T.f_order_of_entries cdv) (cxOf (L2.CX P w) P w K mg base [("solution" : Str), ("entries" : Str), ("lights" : Str), ("entry" : Str), ("keys" : Str), ("k" : Str), ("wrong" : Str), ("empty" : Str), ("right" : Str), ("key" : Str)] ("order_of_entries" : Str) (defScope s_order_of_entries) T.f_order_of_entries cdv A outer s H E).xe := passes_of rfl
    (b_c (s_expr (d_call (ok_check_solution T) (hr.mono (by decide)) tk T.g_check_solution T.u_check_solution.kp T.b_check_solution (a_cons (dv 0) a_nil)))
    (b_c (s_if (t_w (w_or (t_not (t_tru (d_isi .list T.z_isinstance T.z_list (by decide +kernel) (dv 1)))) (w_or1 (t_not (t_ch o_le n_le o_le n_le dint (d_callB call_len n_len T.z_len PySem.boot_len (l_cons (dv 1) l_nil)) dint))))) (b_1 (s_raise rfl tk T.m_BadPuzzle (pmk_own PySem.F.excBase_ValueError T.x_BadPuzzle T.m_BadPuzzle T.k_BadPuzzle (raises_own T.b_BadPuzzle T.t_BadPuzzle) rfl))) b_nil)
    (b_c (s_for hp rfl (i_any (dv 1)) (g_n 3 sc_order_of_entries.nd)
    (b_1 (s_expr (d_call (ok_check_entry T) (hr.mono (by decide)) tk T.g_check_entry T.u_check_entry.kp T.b_check_entry (a_cons (dv 0) (a_cons (dv 3) a_nil))))))
    (b_c (s_expr (d_call (ok_check_lights T) (hr.mono (by decide)) tk T.g_check_lights T.u_check_lights.kp T.b_check_lights (a_cons (dv 0) (a_cons (dv 2) a_nil))))
    (b_c (s_setL 4 sc_order_of_entries.nd l_nil)
    (b_c (s_for hp rfl (i_r1 T.z_range (l_cons (d_callB call_len n_len T.z_len PySem.boot_len (l_cons (dv 1) l_nil)) l_nil)) (g_n 5 sc_order_of_entries.nd)
    (b_c (s_up (d_call (ok_marks_of T) (hr.mono (by decide)) tk T.g_marks_of T.u_marks_of.kp T.b_marks_of (a_cons (dv 0) (a_cons (d_ix ix_seq n_ix (dv 1) (dv 5)) (a_cons (dv 2) a_nil)))) (g_t rfl (gs_c (g_n 6 sc_order_of_entries.nd) (gs_c (g_n 7 sc_order_of_entries.nd) (gs_c (g_n 8 sc_order_of_entries.nd) gs_n)))))
    (b_1 (s_app 4 (l_cons (d_tup (l_cons (d_un un_neg n_neg (d_callB call_len n_len T.z_len PySem.boot_len (l_cons (dv 8) l_nil))) (l_cons (d_callB call_len n_len T.z_len PySem.boot_len (l_cons (dv 6) l_nil)) (l_cons (d_callB call_len n_len T.z_len PySem.boot_len (l_cons (dv 7) l_nil)) (l_cons (dv 5) l_nil))))) l_nil)))))
    (b_1 (s_ret (d_comp (own := [(("key" : Str), 9)]) rfl sc_order_of_entries.nd (i_any (d_callB (call_sortX (rm65 hr)) n_sortX T.z_sorted PyProof.Rows.boot_sorted (l_cons (dvf 4) l_nil))) (blkOk_by (N := [("solution" : Str), ("entries" : Str), ("lights" : Str), ("entry" : Str), ("keys" : Str), ("k" : Str), ("wrong" : Str), ("empty" : Str), ("right" : Str), ("key" : Str)]) (sc := defScope s_order_of_entries) (by decide +kernel)) (fun _ _ _ _ _ => (g_n 9 sc_order_of_entries.nd)) (fun _ _ _ _ _ => ts_n) (fun _ _ _ _ _ => (d_ix ix_seq n_ix (dv 9) dint)))))))))))
theorem ok_law_mixed (T : TX K mg) : FnOk P w K mg base (L2.CX P w) (1) T.f_law_mixed T.d_law_mixed [("number" : Str), ("k" : Str)] (spD K mg 2 [] fn_law_mixed) :=
  fn_ok T.u_law_mixed sc_law_mixed (by decide) fun cdv A outer s H E hr =>
    have tk := takes_of (X := cxOf (L2.CX P w) P w K mg base [("number" : Str), ("k" : Str), ("step" : Str)] ("_law_mixed" : Str) (defScope s_law_mixed) T.f_law_mixed cdv A outer s H E) (E := E) rfl rfl rfl rfl
    have hp : PassesOwn (model P w) (A.deeper (PyProof.Rows.envOfC ("_law_mixed" : Str) (defScope s_law_mixed) s.heap.objs.size T.f_law_mixed cdv)) (PyProof.Rows.envOfC ("_law_mixed" : Str) (defScope s_law_mixed) s.heap.objs.size T.f_law_mixed cdv) (cxOf (L2.CX P w) P w K mg base [("number" : Str), ("k" : Str), ("step" : Str)] ("_law_mixed" : Str) (defScope s_law_mixed) T.f_law_mixed cdv A outer s H E).xe := passes_of rfl
    (b_c (s_set 2 sc_law_mixed.nd (d_op op_mod n_mod (d_op o_add n_add (d_op o_add n_add (d_op op_mul n_mul (dv 0) dint) (d_op op_mul n_mul (dv 1) dint)) dint) dint))
    (b_1 (s_ret (d_op op_mod n_mod (d_op o_add n_add (d_op op_mul n_mul (dv 2) (d_op o_add n_add (d_op op_fdiv n_div (dv 2) dint) dint)) (dv 1)) dint))))
theorem ok_law_numbers (T : TX K mg) : FnOk P w K mg base (L2.CX P w) (2) T.f_law_numbers T.d_law_numbers [("script" : Str)] (spD K mg 1 [] fn_law_numbers) :=
  fn_ok T.u_law_numbers sc_law_numbers (by decide) fun cdv A outer s H E hr =>
    have tk := takes_of (X := cxOf (L2.CX P w) P w K mg base [("script" : Str), ("numbers" : Str), ("cell" : Str), ("rest" : Str), ("k" : Str)] ("_law_numbers" : Str) (defScope s_law_numbers) T.f_law_numbers cdv A outer s H E) (E := E) rfl rfl rfl rfl
    have hp : PassesOwn (model P w) (A.deeper (PyProof.Rows.envOfC ("_law_numbers" : Str) (defScope s_law_numbers) s.heap.objs.size T.f_law_numbers cdv)) (PyProof.Rows.envOfC ("_law_numbers" : Str) (defScope s_law_numbers) s.heap.objs.size T.f_law_numbers cdv) (cxOf (L2.CX P w) P w K mg base [("script" : Str), ("numbers" : Str), ("cell" : Str), ("rest" : Str), ("k" : Str)] ("_law_numbers" : Str) (defScope s_law_numbers) T.f_law_numbers cdv A outer s H E).xe := passes_of rfl
    (b_c (s_setL 1 sc_law_numbers.nd l_nil)
    (b_c (s_for hp rfl (i_any (dv 0)) (g_n 2 sc_law_numbers.nd)
    (b_1 (s_if (t_cmp o_ge n_ge (dv 2) (d_op op_pow n_pow dint dint) (nomark _)) (b_c (s_set 3 sc_law_numbers.nd (dv 2))
    (b_1 (s_for hp rfl (i_r1 T.z_range (l_cons dint l_nil)) (g_n 4 sc_law_numbers.nd)
    (b_1 (s_if (t_cmp o_gt n_gt (dv 3) dint (nomark _)) (b_c (s_app 1 (l_cons (d_op op_mod n_mod (dv 3) dint) l_nil))
    (b_1 (s_set 3 sc_law_numbers.nd (d_op op_fdiv n_div (dv 3) dint)))) b_nil))))) (b_c (s_app 1 (l_cons (d_op op_mod n_mod (dv 2) dint) l_nil))
    (b_1 (s_for hp rfl (i_r1 T.z_range (l_cons dint l_nil)) (g_n 4 sc_law_numbers.nd)
    (b_1 (s_app 1 (l_cons (d_op op_mod n_mod (d_call (ok_law_mixed T) (hr.mono (by decide)) tk T.g_law_mixed T.u_law_mixed.kp T.b_law_mixed (a_cons (d_call (ok_law_mixed T) (hr.mono (by decide)) tk T.g_law_mixed T.u_law_mixed.kp T.b_law_mixed (a_cons (d_op op_mod n_mod (dv 2) dint) (a_cons (dv 4) a_nil))) (a_cons (d_op o_add n_add (dv 4) dint) a_nil))) dint) l_nil)))))))))
    (b_1 (s_ret (dvf 1)))))
theorem ok_law_draw (T : TX K mg) : FnOk P w K mg base (L2.CX P w) (2) T.f_law_draw T.d_law_draw [("draws" : Str), ("many" : Str)] (spD K mg 2 [0] fn_law_draw) :=
  fn_ok T.u_law_draw sc_law_draw (by decide) fun cdv A outer s H E hr =>
    have tk := takes_of (X := cxOf (L2.CX P w) P w K mg base [("draws" : Str), ("many" : Str), ("at" : Str), ("first" : Str)] ("_law_draw" : Str) (defScope s_law_draw) T.f_law_draw cdv A outer s H E) (E := E) rfl rfl rfl rfl
    have hp : PassesOwn (model P w) (A.deeper (PyProof.Rows.envOfC ("_law_draw" : Str) (defScope s_law_draw) s.heap.objs.size T.f_law_draw cdv)) (PyProof.Rows.envOfC ("_law_draw" : Str) (defScope s_law_draw) s.heap.objs.size T.f_law_draw cdv) (cxOf (L2.CX P w) P w K mg base [("draws" : Str), ("many" : Str), ("at" : Str), ("first" : Str)] ("_law_draw" : Str) (defScope s_law_draw) T.f_law_draw cdv A outer s H E).xe := passes_of rfl
    (b_c (s_set 2 sc_law_draw.nd (d_ixO 0 dint))
    (b_c (s_six 0 (d_op o_add n_add (dv 2) dint) dint)
    (b_c (s_if (t_cmp o_lt n_lt (dv 2) (d_callB call_len n_len T.z_len PySem.boot_len (l_cons (d_ixO 0 dint) l_nil)) (nomark _)) (b_1 (s_ret (d_op op_mod n_mod (d_ix ix_seq n_ix (d_ixO 0 dint) (dv 2)) (dv 1)))) b_nil)
    (b_c (s_set 3 sc_law_draw.nd (d_op o_add n_add dint (dv 2)))
    (b_c (s_if (t_cmp o_gt n_gt (d_callB call_len n_len T.z_len PySem.boot_len (l_cons (d_ixO 0 dint) l_nil)) dint (nomark _)) (b_1 (s_set 3 sc_law_draw.nd (d_op o_add n_add (dv 3) (d_op op_mul n_mul dint (d_ix ix_seq n_ix (d_ixO 0 dint) dint))))) b_nil)
    (b_1 (s_ret (d_op op_mod n_mod (d_op op_fdiv n_div (d_call (ok_law_mixed T) (hr.mono (by decide)) tk T.g_law_mixed T.u_law_mixed.kp T.b_law_mixed (a_cons (d_call (ok_law_mixed T) (hr.mono (by decide)) tk T.g_law_mixed T.u_law_mixed.kp T.b_law_mixed (a_cons (dv 3) (a_cons (dv 2) a_nil))) (a_cons dint a_nil))) dint) (dv 1)))))))))
mutual
theorem ok_law_equal (T : TX K mg) : ∀ n : Nat, FnOk P w K mg base (L2.CX P w) (0 + n) T.f_law_equal T.d_law_equal [("actual" : Str), ("due" : Str)] (spD K mg 2 [] (fn_law_equal n))
  | 0 => fn_none
  | n + 1 => fn_ok T.u_law_equal sc_law_equal (by decide) fun cdv A outer s H E hr =>
    have tk := takes_of (X := cxOf (L2.CX P w) P w K mg base [("actual" : Str), ("due" : Str)] ("_law_equal" : Str) (defScope s_law_equal) T.f_law_equal cdv A outer s H E) (E := E) rfl rfl rfl rfl
    have hp : PassesOwn (model P w) (A.deeper (PyProof.Rows.envOfC ("_law_equal" : Str) (defScope s_law_equal) s.heap.objs.size T.f_law_equal cdv)) (PyProof.Rows.envOfC ("_law_equal" : Str) (defScope s_law_equal) s.heap.objs.size T.f_law_equal cdv) (cxOf (L2.CX P w) P w K mg base [("actual" : Str), ("due" : Str)] ("_law_equal" : Str) (defScope s_law_equal) T.f_law_equal cdv A outer s H E).xe := passes_of rfl
    (b_c (s_if (t_tru (d_isi .list T.z_isinstance T.z_list (by decide +kernel) (dv 1))) (b_1 (s_ret (d_and (d_isi .list T.z_isinstance T.z_list (by decide +kernel) (dv 0)) (d_and (d_cmp (op_eqD hr.units) n_eq (d_callB call_len n_len T.z_len PySem.boot_len (l_cons (dv 0) l_nil)) (d_callB call_len n_len T.z_len PySem.boot_len (l_cons (dv 1) l_nil)) (nomark _)) (d_one (d_call (ok_law_all_equal T n) (hr.mono (by show 0 + n ≤ 0 + n; omega)) tk T.g_law_all_equal T.u_law_all_equal.kp T.b_law_all_equal (a_cons (dv 0) (a_cons (dv 1) a_nil)))))))) b_nil)
    (b_c (s_if (t_tru (d_isi .tuple T.z_isinstance T.z_tuple (by decide +kernel) (dv 1))) (b_1 (s_ret (d_and (d_isi .tuple T.z_isinstance T.z_tuple (by decide +kernel) (dv 0)) (d_and (d_cmp (op_eqD hr.units) n_eq (d_callB call_len n_len T.z_len PySem.boot_len (l_cons (dv 0) l_nil)) (d_callB call_len n_len T.z_len PySem.boot_len (l_cons (dv 1) l_nil)) (nomark _)) (d_one (d_call (ok_law_all_equal T n) (hr.mono (by show 0 + n ≤ 0 + n; omega)) tk T.g_law_all_equal T.u_law_all_equal.kp T.b_law_all_equal (a_cons (dv 0) (a_cons (dv 1) a_nil)))))))) b_nil)
    (b_c (s_if (t_tru (d_isi .bool T.z_isinstance T.z_bool (by decide +kernel) (dv 1))) (b_1 (s_ret (d_and (d_isi .bool T.z_isinstance T.z_bool (by decide +kernel) (dv 0)) (d_one (d_cmp (op_eqD hr.units) n_eq (dv 0) (dv 1) (nomark _)))))) b_nil)
    (b_c (s_if (t_tru (d_isi .int T.z_isinstance T.z_int (by decide +kernel) (dv 1))) (b_1 (s_ret (d_and (d_isi .int T.z_isinstance T.z_int (by decide +kernel) (dv 0)) (d_and (d_not (d_isi .bool T.z_isinstance T.z_bool (by decide +kernel) (dv 0))) (d_one (d_cmp (op_eqD hr.units) n_eq (dv 0) (dv 1) (nomark _))))))) b_nil)
    (b_c (s_if (t_tru (d_isi .str T.z_isinstance T.z_str (by decide +kernel) (dv 1))) (b_1 (s_ret (d_and (d_isi .str T.z_isinstance T.z_str (by decide +kernel) (dv 0)) (d_one (d_cmp (op_eqD hr.units) n_eq (dv 0) (dv 1) (nomark _)))))) b_nil)
    (b_1 (s_ret (d_cmp op_isN n_is (dv 0) dnon (nomark _)))))))))
theorem ok_law_all_equal (T : TX K mg) : ∀ n : Nat, FnOk P w K mg base (L2.CX P w) (0 + n) T.f_law_all_equal T.d_law_all_equal [("actual" : Str), ("due" : Str)] (spD K mg 2 [] (fn_law_all_equal n))
  | 0 => fn_none
  | n + 1 => fn_ok T.u_law_all_equal sc_law_all_equal (by decide) fun cdv A outer s H E hr =>
    have tk := takes_of (X := cxOf (L2.CX P w) P w K mg base [("actual" : Str), ("due" : Str), ("k" : Str)] ("_law_all_equal" : Str) (defScope s_law_all_equal) T.f_law_all_equal cdv A outer s H E) (E := E) rfl rfl rfl rfl
    have hp : PassesOwn (model P w) (A.deeper (PyProof.Rows.envOfC ("_law_all_equal" : Str) (defScope s_law_all_equal) s.heap.objs.size T.f_law_all_equal cdv)) (PyProof.Rows.envOfC ("_law_all_equal" : Str) (defScope s_law_all_equal) s.heap.objs.size T.f_law_all_equal cdv) (cxOf (L2.CX P w) P w K mg base [("actual" : Str), ("due" : Str), ("k" : Str)] ("_law_all_equal" : Str) (defScope s_law_all_equal) T.f_law_all_equal cdv A outer s H E).xe := passes_of rfl
    (b_c (s_for hp rfl (i_r1 T.z_range (l_cons (d_callB call_len n_len T.z_len PySem.boot_len (l_cons (dv 1) l_nil)) l_nil)) (g_n 2 sc_law_all_equal.nd)
    (b_1 (s_if (t_not (t_tru (d_call (ok_law_equal T n) (hr.mono (by show 0 + n ≤ 0 + n; omega)) tk T.g_law_equal T.u_law_equal.kp T.b_law_equal (a_cons (d_ix ix_seq n_ix (dv 0) (dv 2)) (a_cons (d_ix ix_seq n_ix (dv 1) (dv 2)) a_nil))))) (b_1 (s_ret dbl)) b_nil)))
    (b_1 (s_ret dbl)))
end
theorem ok_law_sheet (T : TX K mg) : FnOk P w K mg base (L2.CX P w) (3) T.f_law_sheet T.d_law_sheet [("draws" : Str), ("high" : Str), ("wide" : Str)] (spD K mg 3 [0] fn_law_sheet) :=
  fn_ok T.u_law_sheet sc_law_sheet (by decide) fun cdv A outer s H E hr =>
    have tk := takes_of (X := cxOf (L2.CX P w) P w K mg base [("draws" : Str), ("high" : Str), ("wide" : Str), ("r" : Str), ("c" : Str)] ("_law_sheet" : Str) (defScope s_law_sheet) T.f_law_sheet cdv A outer s H E) (E := E) rfl rfl rfl rfl
    have hp : PassesOwn (model P w) (A.deeper (PyProof.Rows.envOfC ("_law_sheet" : Str) (defScope s_law_sheet) s.heap.objs.size T.f_law_sheet cdv)) (PyProof.Rows.envOfC ("_law_sheet" : Str) (defScope s_law_sheet) s.heap.objs.size T.f_law_sheet cdv) (cxOf (L2.CX P w) P w K mg base [("draws" : Str), ("high" : Str), ("wide" : Str), ("r" : Str), ("c" : Str)] ("_law_sheet" : Str) (defScope s_law_sheet) T.f_law_sheet cdv A outer s H E).xe := passes_of rfl
    (b_1 (s_ret (d_comp (own := [(("r" : Str), 3)]) rfl sc_law_sheet.nd (i_r1 T.z_range (l_cons (dv 1) l_nil)) (blkOk_by (N := [("draws" : Str), ("high" : Str), ("wide" : Str), ("r" : Str), ("c" : Str)]) (sc := defScope s_law_sheet) (by decide +kernel)) (fun _ _ _ _ _ => (g_n 3 sc_law_sheet.nd)) (fun _ _ _ _ _ => ts_n) (fun _ _ _ _ _ => (d_join dstr (d_comp (own := [(("c" : Str), 4)]) rfl sc_law_sheet.nd (i_r1 T.z_range (l_cons (dv 2) l_nil)) (blkOk_by (by kernel_rfl)) (fun _ _ _ _ _ => (g_n 4 sc_law_sheet.nd)) (fun _ _ _ _ _ => ts_n) (fun _ _ _ _ _ => (d_ix ix_seq n_ix dstr (d_call (ok_law_draw T) (hr.mono (by decide)) takes0 T.g_law_draw T.u_law_draw.kp T.b_law_draw (a_io 0 (a_cons dint a_nil)))))))))))
theorem ok_law_entry (T : TX K mg) : FnOk P w K mg base (L2.CX P w) (3) T.f_law_entry T.d_law_entry [("draws" : Str), ("solution" : Str)] (spD K mg 2 [0] fn_law_entry) :=
  fn_ok T.u_law_entry sc_law_entry (by decide) fun cdv A outer s H E hr =>
    have tk := takes_of (X := cxOf (L2.CX P w) P w K mg base [("draws" : Str), ("solution" : Str), ("found" : Str), ("row" : Str), ("line" : Str), ("sign" : Str), ("pick" : Str)] ("_law_entry" : Str) (defScope s_law_entry) T.f_law_entry cdv A outer s H E) (E := E) rfl rfl rfl rfl
    have hp : PassesOwn (model P w) (A.deeper (PyProof.Rows.envOfC ("_law_entry" : Str) (defScope s_law_entry) s.heap.objs.size T.f_law_entry cdv)) (PyProof.Rows.envOfC ("_law_entry" : Str) (defScope s_law_entry) s.heap.objs.size T.f_law_entry cdv) (cxOf (L2.CX P w) P w K mg base [("draws" : Str), ("solution" : Str), ("found" : Str), ("row" : Str), ("line" : Str), ("sign" : Str), ("pick" : Str)] ("_law_entry" : Str) (defScope s_law_entry) T.f_law_entry cdv A outer s H E).xe := passes_of rfl
    (b_c (s_setL 2 sc_law_entry.nd l_nil)
    (b_c (s_for hp rfl (i_any (dv 1)) (g_n 3 sc_law_entry.nd)
    (b_c (s_set 4 sc_law_entry.nd dstr)
    (b_c (s_for hp rfl (i_any (dv 3)) (g_n 5 sc_law_entry.nd)
    (b_c (s_set 6 sc_law_entry.nd (d_call (ok_law_draw T) (hr.mono (by decide)) tk T.g_law_draw T.u_law_draw.kp T.b_law_draw (a_io 0 (a_cons dint a_nil))))
    (b_1 (s_set 4 sc_law_entry.nd (d_op o_add n_add (dv 4) (d_if (t_w (w_or (t_cmp (op_eqD hr.units) n_eq (dv 5) dstr (nomark _)) (w_or1 (t_cmp o_gt n_gt (dv 6) dint (nomark _))))) (dv 5) (d_ix ix_seq n_ix (d_lst (l_cons dstr (l_cons dstr l_nil))) (dv 6))))))))
    (b_1 (s_app 2 (l_cons (dv 4) l_nil))))))
    (b_1 (s_ret (dvf 2)))))
theorem ok_law_marked (T : TX K mg) : FnOk P w K mg base (L2.CX P w) (1) T.f_law_marked T.d_law_marked [("solution" : Str), ("entry" : Str), ("lights" : Str)] (spD K mg 3 [] fn_law_marked) :=
  fn_ok T.u_law_marked sc_law_marked (by decide) fun cdv A outer s H E hr =>
    have tk := takes_of (X := cxOf (L2.CX P w) P w K mg base [("solution" : Str), ("entry" : Str), ("lights" : Str), ("squares" : Str), ("r" : Str), ("wrong" : Str), ("empty" : Str), ("right" : Str), ("square" : Str), ("k" : Str), ("c" : Str)] ("_law_marked" : Str) (defScope s_law_marked) T.f_law_marked cdv A outer s H E) (E := E) rfl rfl rfl rfl
    have hp : PassesOwn (model P w) (A.deeper (PyProof.Rows.envOfC ("_law_marked" : Str) (defScope s_law_marked) s.heap.objs.size T.f_law_marked cdv)) (PyProof.Rows.envOfC ("_law_marked" : Str) (defScope s_law_marked) s.heap.objs.size T.f_law_marked cdv) (cxOf (L2.CX P w) P w K mg base [("solution" : Str), ("entry" : Str), ("lights" : Str), ("squares" : Str), ("r" : Str), ("wrong" : Str), ("empty" : Str), ("right" : Str), ("square" : Str), ("k" : Str), ("c" : Str)] ("_law_marked" : Str) (defScope s_law_marked) T.f_law_marked cdv A outer s H E).xe := passes_of rfl
    (b_c (s_set 3 sc_law_marked.nd (d_lst l_nil))
    (b_c (s_for hp rfl (i_r1 T.z_range (l_cons (d_callB call_len n_len T.z_len PySem.boot_len (l_cons (dv 0) l_nil)) l_nil)) (g_n 4 sc_law_marked.nd)
    (b_1 (s_set 3 sc_law_marked.nd (d_op o_add n_add (dv 3) (d_comp (own := [(("c" : Str), 10)]) rfl sc_law_marked.nd (i_r1 T.z_range (l_cons (d_callB call_len n_len T.z_len PySem.boot_len (l_cons (d_ix ix_seq n_ix (dv 0) dint) l_nil)) l_nil)) (blkOk_by (N := [("solution" : Str), ("entry" : Str), ("lights" : Str), ("squares" : Str), ("r" : Str), ("wrong" : Str), ("empty" : Str), ("right" : Str), ("square" : Str), ("k" : Str), ("c" : Str)]) (sc := defScope s_law_marked) (by decide +kernel)) (fun _ _ _ _ _ => (g_n 10 sc_law_marked.nd)) (fun _ _ _ _ _ => ts_n) (fun _ _ _ _ _ => (d_tup (l_cons (dv 4) (l_cons (dv 10) l_nil)))))))))
    (b_c (s_set 5 sc_law_marked.nd (d_comp (own := [(("square" : Str), 8)]) rfl sc_law_marked.nd (i_any (dv 3)) (blkOk_by (N := [("solution" : Str), ("entry" : Str), ("lights" : Str), ("squares" : Str), ("r" : Str), ("wrong" : Str), ("empty" : Str), ("right" : Str), ("square" : Str), ("k" : Str), ("c" : Str)]) (sc := defScope s_law_marked) (by decide +kernel)) (fun _ _ _ _ _ => (g_n 8 sc_law_marked.nd)) (fun _ _ _ _ _ => ts_1 (t_cmp (o_nin (rm65 hr)) n_nin (d_ix ix_seq n_ix (d_ix ix_seq n_ix (dv 1) (d_ix ix_seq n_ix (dv 8) dint)) (d_ix ix_seq n_ix (dv 8) dint)) (d_tup (l_cons dstr (l_cons (d_ix ix_seq n_ix (d_ix ix_seq n_ix (dv 0) (d_ix ix_seq n_ix (dv 8) dint)) (d_ix ix_seq n_ix (dv 8) dint)) l_nil))) (by rfl))) (fun _ _ _ _ _ => (dv 8))))
    (b_c (s_set 6 sc_law_marked.nd (d_comp (own := [(("square" : Str), 8)]) rfl sc_law_marked.nd (i_any (dv 3)) (blkOk_by (N := [("solution" : Str), ("entry" : Str), ("lights" : Str), ("squares" : Str), ("r" : Str), ("wrong" : Str), ("empty" : Str), ("right" : Str), ("square" : Str), ("k" : Str), ("c" : Str)]) (sc := defScope s_law_marked) (by decide +kernel)) (fun _ _ _ _ _ => (g_n 8 sc_law_marked.nd)) (fun _ _ _ _ _ => ts_1 (t_cmp (op_eqD hr.units) n_eq (d_ix ix_seq n_ix (d_ix ix_seq n_ix (dv 1) (d_ix ix_seq n_ix (dv 8) dint)) (d_ix ix_seq n_ix (dv 8) dint)) dstr (nomark _))) (fun _ _ _ _ _ => (dv 8))))
    (b_c (s_comp 7 (own := [(("k" : Str), 9)]) rfl sc_law_marked.nd (sw_true rfl rfl rfl (by decide +kernel)) (i_r1 T.z_range (l_cons (d_callB call_len n_len T.z_len PySem.boot_len (l_cons (dv 2) l_nil)) l_nil)) (blkOk_by (N := [("solution" : Str), ("entry" : Str), ("lights" : Str), ("squares" : Str), ("r" : Str), ("wrong" : Str), ("empty" : Str), ("right" : Str), ("square" : Str), ("k" : Str), ("c" : Str)]) (sc := defScope s_law_marked) (by decide +kernel)) (fun _ _ _ _ _ => (g_n 9 sc_law_marked.nd)) (fun _ _ _ _ _ => ts_1 (t_cmp (op_eqD hr.units) n_eq (d_callB call_len n_len T.z_len PySem.boot_len (l_cons (d_comp (own := [(("square" : Str), 8)]) rfl sc_law_marked.nd (i_any (d_ix ix_seq n_ix (dv 2) (dv 9))) (blkOk_by (by kernel_rfl)) (fun _ _ _ _ _ => (g_n 8 sc_law_marked.nd)) (fun _ _ _ _ _ => ts_1 (t_w (w_or (t_cmp (o_in (rm65 hr)) n_in (dv 8) (dv 5) (by rfl)) (w_or1 (t_cmp (o_in (rm65 hr)) n_in (dv 8) (dv 6) (by rfl)))))) (fun _ _ _ _ _ => (dv 8))) l_nil)) dint (nomark _))) (fun _ _ _ _ _ => (dv 9)))
    (b_1 (s_ret (d_tup (l_cons (dv 5) (l_cons (dv 6) (l_cons (dv 7) l_nil)))))))))))
theorem ok_law_refused (T : TX K mg) : FnOk P w K mg base (L2.CX P w) (5) T.f_law_refused T.d_law_refused [("what" : Str), ("solution" : Str), ("entry" : Str), ("lights" : Str)] (spD K mg 4 [] fn_law_refused) :=
  fn_ok T.u_law_refused sc_law_refused (by decide) fun cdv A outer s H E hr =>
    have tk := takes_of (X := cxOf (L2.CX P w) P w K mg base [("what" : Str), ("solution" : Str), ("entry" : Str), ("lights" : Str)] ("_law_refused" : Str) (defScope s_law_refused) T.f_law_refused cdv A outer s H E) (E := E) rfl rfl rfl rfl
    have hp : PassesOwn (model P w) (A.deeper (PyProof.Rows.envOfC ("_law_refused" : Str) (defScope s_law_refused) s.heap.objs.size T.f_law_refused cdv)) (PyProof.Rows.envOfC ("_law_refused" : Str) (defScope s_law_refused) s.heap.objs.size T.f_law_refused cdv) (cxOf (L2.CX P w) P w K mg base [("what" : Str), ("solution" : Str), ("entry" : Str), ("lights" : Str)] ("_law_refused" : Str) (defScope s_law_refused) T.f_law_refused cdv A outer s H E).xe := passes_of rfl
    (b_c (s_try tk (fun W pn xe tk hp => (b_1 (s_if (t_cmp (op_eqD hr.units) n_eq (dv 0) dstr (nomark _)) (b_1 (s_expr (d_call (ok_marked T) (hr.mono (by decide)) tk T.g_marked T.u_marked.kp T.b_marked (a_cons (dv 1) (a_cons (dv 2) (a_cons (dv 3) a_nil)))))) (b_1 (s_expr (d_call (ok_order_of_entries T) (hr.mono (by decide)) tk T.g_order_of_entries T.u_order_of_entries.kp T.b_order_of_entries (a_cons (dv 1) (a_cons (d_lst (l_cons (dv 2) l_nil)) (a_cons (dv 3) a_nil))))))))) T.sub (h_cons T.m_BadPuzzle (fun a pn => (b_1 (s_ret dstr))) (h_cons T.m_BadRule (fun a pn => (b_1 (s_ret dstr))) h_nil)))
    (b_1 (s_ret dstr)))
theorem ok_law (T : TX K mg) : FnOk P w K mg base (L2.CX P w) (9) T.f_law T.d_law [("script" : Str)] (spD K mg 1 [] fn_law) :=
  fn_ok T.u_law sc_law (by decide) fun cdv A outer s H E hr =>
    have tk := takes_of (X := cxOf (L2.CX P w) P w K mg base [("script" : Str), ("draws" : Str), ("solution" : Str), ("cells" : Str), ("r" : Str), ("lights" : Str), ("k" : Str), ("entries" : Str), ("values" : Str), ("what" : Str), ("high" : Str), ("wide" : Str), ("due" : Str), ("bad" : Str), ("first" : Str), ("c" : Str), ("value" : Str)] ("law" : Str) (defScope s_law) T.f_law cdv A outer s H E) (E := E) rfl rfl rfl rfl
    have hp : PassesOwn (model P w) (A.deeper (PyProof.Rows.envOfC ("law" : Str) (defScope s_law) s.heap.objs.size T.f_law cdv)) (PyProof.Rows.envOfC ("law" : Str) (defScope s_law) s.heap.objs.size T.f_law cdv) (cxOf (L2.CX P w) P w K mg base [("script" : Str), ("draws" : Str), ("solution" : Str), ("cells" : Str), ("r" : Str), ("lights" : Str), ("k" : Str), ("entries" : Str), ("values" : Str), ("what" : Str), ("high" : Str), ("wide" : Str), ("due" : Str), ("bad" : Str), ("first" : Str), ("c" : Str), ("value" : Str)] ("law" : Str) (defScope s_law) T.f_law cdv A outer s H E).xe := passes_of rfl
    (b_c (s_setL 1 sc_law.nd (l_cons (d_call (ok_law_numbers T) (hr.mono (by decide)) tk T.g_law_numbers T.u_law_numbers.kp T.b_law_numbers (a_cons (dv 0) a_nil)) (l_cons dint l_nil)))
    (b_c (s_par 10 11 rfl sc_law.nd (l_cons (d_op o_add n_add dint (d_call (ok_law_draw T) (hr.mono (by decide)) tk T.g_law_draw T.u_law_draw.kp T.b_law_draw (a_io 1 (a_cons dint a_nil)))) (l_cons (d_op o_add n_add dint (d_call (ok_law_draw T) (hr.mono (by decide)) tk T.g_law_draw T.u_law_draw.kp T.b_law_draw (a_io 1 (a_cons dint a_nil)))) l_nil)))
    (b_c (s_set 2 sc_law.nd (d_call (ok_law_sheet T) (hr.mono (by decide)) tk T.g_law_sheet T.u_law_sheet.kp T.b_law_sheet (a_io 1 (a_cons (dv 10) (a_cons (dv 11) a_nil)))))
    (b_c (s_set 3 sc_law.nd (d_lst l_nil))
    (b_c (s_for hp rfl (i_r1 T.z_range (l_cons (dv 10) l_nil)) (g_n 4 sc_law.nd)
    (b_1 (s_set 3 sc_law.nd (d_op o_add n_add (dv 3) (d_comp (own := [(("c" : Str), 15)]) rfl sc_law.nd (i_r1 T.z_range (l_cons (dv 11) l_nil)) (blkOk_by (N := [("script" : Str), ("draws" : Str), ("solution" : Str), ("cells" : Str), ("r" : Str), ("lights" : Str), ("k" : Str), ("entries" : Str), ("values" : Str), ("what" : Str), ("high" : Str), ("wide" : Str), ("due" : Str), ("bad" : Str), ("first" : Str), ("c" : Str), ("value" : Str)]) (sc := defScope s_law) (by decide +kernel)) (fun _ _ _ _ _ => (g_n 15 sc_law.nd)) (fun _ _ _ _ _ => ts_1 (t_cmp (op_neD hr.units) n_ne (d_ix ix_seq n_ix (d_ix ix_seq n_ix (dv 2) (dv 4)) (dv 15)) dstr (nomark _))) (fun _ _ _ _ _ => (d_tup (l_cons (dv 4) (l_cons (dv 15) l_nil)))))))))
    (b_c (s_setL 5 sc_law.nd l_nil)
    (b_c (s_for hp rfl (i_r1 T.z_range (l_cons (d_call (ok_law_draw T) (hr.mono (by decide)) tk T.g_law_draw T.u_law_draw.kp T.b_law_draw (a_io 1 (a_cons dint a_nil))) l_nil)) (g_n 6 sc_law.nd)
    (b_1 (s_if (t_cmp o_gt n_gt (d_callB call_len n_len T.z_len PySem.boot_len (l_cons (dv 3) l_nil)) dint (nomark _)) (b_c (s_set 14 sc_law.nd (d_call (ok_law_draw T) (hr.mono (by decide)) tk T.g_law_draw T.u_law_draw.kp T.b_law_draw (a_io 1 (a_cons (d_op op_sub n_sub (d_callB call_len n_len T.z_len PySem.boot_len (l_cons (dv 3) l_nil)) dint) a_nil))))
    (b_1 (s_app 5 (l_cons (d_sl o_sl n_sl (dv 3) (o_some (dv 14)) (o_some (d_op o_add n_add (d_op o_add n_add (dv 14) dint) (d_call (ok_law_draw T) (hr.mono (by decide)) tk T.g_law_draw T.u_law_draw.kp T.b_law_draw (a_io 1 (a_cons dint a_nil)))))) l_nil)))) b_nil)))
    (b_c (s_comp 7 (own := [(("k" : Str), 6)]) rfl sc_law.nd (sw_true rfl rfl rfl (by decide +kernel)) (i_r1 T.z_range (l_cons (d_op o_add n_add dint (d_call (ok_law_draw T) (hr.mono (by decide)) tk T.g_law_draw T.u_law_draw.kp T.b_law_draw (a_io 1 (a_cons dint a_nil)))) l_nil)) (blkOk_by (N := [("script" : Str), ("draws" : Str), ("solution" : Str), ("cells" : Str), ("r" : Str), ("lights" : Str), ("k" : Str), ("entries" : Str), ("values" : Str), ("what" : Str), ("high" : Str), ("wide" : Str), ("due" : Str), ("bad" : Str), ("first" : Str), ("c" : Str), ("value" : Str)]) (sc := defScope s_law) (by decide +kernel)) (fun _ _ _ _ _ => (g_n 6 sc_law.nd)) (fun _ _ _ _ _ => ts_n) (fun _ _ _ _ _ => (d_call (ok_law_entry T) (hr.mono (by decide)) takes0 T.g_law_entry T.u_law_entry.kp T.b_law_entry (a_io 1 (a_cons (dv 2) a_nil)))))
    (b_c (s_setL 8 sc_law.nd l_nil)
    (b_c (s_for hp rfl (i_r1 T.z_range (l_cons (d_callB call_len n_len T.z_len PySem.boot_len (l_cons (dv 7) l_nil)) l_nil)) (g_n 6 sc_law.nd)
    (b_c (s_set 12 sc_law.nd (d_call (ok_law_marked T) (hr.mono (by decide)) tk T.g_law_marked T.u_law_marked.kp T.b_law_marked (a_cons (dv 2) (a_cons (d_ix ix_seq n_ix (dv 7) (dv 6)) (a_cons (dvf 5) a_nil)))))
    (b_c (s_if (t_not (t_tru (d_call (ok_law_equal T 8) (hr.mono (by decide)) tk T.g_law_equal T.u_law_equal.kp T.b_law_equal (a_cons (d_call (ok_marked T) (hr.mono (by decide)) tk T.g_marked T.u_marked.kp T.b_marked (a_cons (dv 2) (a_cons (d_ix ix_seq n_ix (dv 7) (dv 6)) (a_cons (dvf 5) a_nil)))) (a_cons (dv 12) a_nil))))) (b_1 (s_ret dbl)) b_nil)
    (b_1 (s_app 8 (l_cons (d_tup (l_cons (d_un un_neg n_neg (d_callB call_len n_len T.z_len PySem.boot_len (l_cons (d_ix ix_seq n_ix (dv 12) dint) l_nil))) (l_cons (d_callB call_len n_len T.z_len PySem.boot_len (l_cons (d_ix ix_seq n_ix (dv 12) dint) l_nil)) (l_cons (d_callB call_len n_len T.z_len PySem.boot_len (l_cons (d_ix ix_seq n_ix (dv 12) dint) l_nil)) (l_cons (dv 6) l_nil))))) l_nil))))))
    (b_c (s_if (t_not (t_tru (d_call (ok_law_equal T 8) (hr.mono (by decide)) tk T.g_law_equal T.u_law_equal.kp T.b_law_equal (a_cons (d_call (ok_order_of_entries T) (hr.mono (by decide)) tk T.g_order_of_entries T.u_order_of_entries.kp T.b_order_of_entries (a_cons (dv 2) (a_cons (dv 7) (a_cons (dvf 5) a_nil)))) (a_cons (d_comp (own := [(("value" : Str), 16)]) rfl sc_law.nd (i_any (d_callB (call_sortX (rm65 hr)) n_sortX T.z_sorted PyProof.Rows.boot_sorted (l_cons (dvf 8) l_nil))) (blkOk_by (N := [("script" : Str), ("draws" : Str), ("solution" : Str), ("cells" : Str), ("r" : Str), ("lights" : Str), ("k" : Str), ("entries" : Str), ("values" : Str), ("what" : Str), ("high" : Str), ("wide" : Str), ("due" : Str), ("bad" : Str), ("first" : Str), ("c" : Str), ("value" : Str)]) (sc := defScope s_law) (by decide +kernel)) (fun _ _ _ _ _ => (g_n 16 sc_law.nd)) (fun _ _ _ _ _ => ts_n) (fun _ _ _ _ _ => (d_ix ix_seq n_ix (dv 16) dint))) a_nil))))) (b_1 (s_ret dbl)) b_nil)
    (b_c (s_for hp rfl (i_any (d_tup (l_cons dstr (l_cons dstr l_nil)))) (g_n 9 sc_law.nd)
    (b_c (s_for hp rfl (i_any (d_lst (l_cons (d_lst l_nil) (l_cons (d_lst (l_cons dstr l_nil)) (l_cons (d_lst (l_cons dstr l_nil)) (l_cons (d_lst (l_cons dstr (l_cons dstr l_nil))) (l_cons dnon (l_cons (d_lst (l_cons dstr l_nil)) (l_cons (d_rep (l_cons dstr l_nil) dint) (l_cons (d_lst (l_cons (d_op o_repS n_repS dstr dint) l_nil)) (l_cons dstr (l_cons (d_lst (l_cons dint l_nil)) l_nil)))))))))))) (g_n 13 sc_law.nd)
    (b_1 (s_if (t_cmp (op_neD hr.units) n_ne (d_call (ok_law_refused T) (hr.mono (by decide)) tk T.g_law_refused T.u_law_refused.kp T.b_law_refused (a_cons (dv 9) (a_cons (dv 13) (a_cons (d_lst (l_cons dstr l_nil)) (a_cons (d_lst l_nil) a_nil))))) dstr (nomark _)) (b_1 (s_ret dbl)) b_nil)))
    (b_c (s_for hp rfl (i_any (d_lst (l_cons (d_lst (l_cons dstr l_nil)) (l_cons (d_lst (l_cons dstr (l_cons dstr l_nil))) (l_cons (d_lst (l_cons dstr l_nil)) (l_cons (d_lst (l_cons dstr l_nil)) (l_cons dnon (l_cons (d_lst l_nil) (l_cons dstr l_nil))))))))) (g_n 13 sc_law.nd)
    (b_1 (s_if (t_cmp (op_neD hr.units) n_ne (d_call (ok_law_refused T) (hr.mono (by decide)) tk T.g_law_refused T.u_law_refused.kp T.b_law_refused (a_cons (dv 9) (a_cons (d_lst (l_cons dstr l_nil)) (a_cons (dv 13) (a_cons (d_lst l_nil) a_nil))))) dstr (nomark _)) (b_1 (s_ret dbl)) b_nil)))
    (b_1 (s_for hp rfl (i_any (d_lst (l_cons dnon (l_cons (d_lst (l_cons (d_lst (l_cons (d_tup (l_cons dint (l_cons dint l_nil))) l_nil)) l_nil)) (l_cons (d_lst (l_cons (d_lst (l_cons (d_tup (l_cons dint (l_cons dint l_nil))) (l_cons (d_tup (l_cons dint (l_cons dint l_nil))) l_nil))) l_nil)) (l_cons (d_lst (l_cons (d_lst (l_cons (d_tup (l_cons dint (l_cons dint l_nil))) (l_cons (d_tup (l_cons dint (l_cons dint l_nil))) l_nil))) l_nil)) (l_cons (d_lst (l_cons (d_lst (l_cons (d_tup (l_cons dint (l_cons dint l_nil))) (l_cons (d_tup (l_cons dint (l_cons dint l_nil))) l_nil))) l_nil)) (l_cons (d_lst (l_cons (d_lst (l_cons (d_tup (l_cons dint (l_cons dint l_nil))) (l_cons (d_lst (l_cons dint (l_cons dint l_nil))) l_nil))) l_nil)) (l_cons (d_lst (l_cons (d_lst l_nil) l_nil)) (l_cons (d_rep (l_cons (d_lst (l_cons (d_tup (l_cons dint (l_cons dint l_nil))) (l_cons (d_tup (l_cons dint (l_cons dint l_nil))) l_nil))) l_nil) dint) l_nil)))))))))) (g_n 13 sc_law.nd)
    (b_1 (s_if (t_cmp (op_neD hr.units) n_ne (d_call (ok_law_refused T) (hr.mono (by decide)) tk T.g_law_refused T.u_law_refused.kp T.b_law_refused (a_cons (dv 9) (a_cons (d_lst (l_cons dstr l_nil)) (a_cons (d_lst (l_cons dstr l_nil)) (a_cons (dv 13) a_nil))))) dstr (nomark _)) (b_1 (s_ret dbl)) b_nil)))))))
    (b_1 (s_ret (d_cmp (op_eqD hr.units) n_eq (d_call (ok_law_refused T) (hr.mono (by decide)) tk T.g_law_refused T.u_law_refused.kp T.b_law_refused (a_cons dstr (a_cons (d_lst (l_cons dstr l_nil)) (a_cons (d_lst (l_cons dstr l_nil)) (a_cons (d_lst (l_cons (d_lst (l_cons (d_tup (l_cons dint (l_cons dint l_nil))) (l_cons (d_tup (l_cons dint (l_cons dint l_nil))) l_nil))) l_nil)) a_nil))))) dstr (nomark _))))))))))))))))
end
end Lw

set_option Elab.async false
set_option linter.all false
set_option maxRecDepth 100000
set_option maxHeartbeats 4000000
namespace Lw
open PySem PySem.Spec L2 Ly

theorem all_mk {l : PySem.W.OpenLaw} {w : World} {K : PySem.W.Frag} {h : Heap} {mg : MG} {fa : Addr} (X : K.In h) (G : h.Ns mainGlobals mg) (hfa : mg "law" = some (.ref fa))
    {f1 : Addr} {od1 an1 : Option Addr} {sl1 : Array (Option Value)} {oc1 kV1 dc1 pm1 cd1 ct1 : Value}
    {f2 : Addr} {od2 an2 : Option Addr} {sl2 : Array (Option Value)} {oc2 kV2 dc2 pm2 cd2 ct2 : Value}
    {f3 : Addr} {od3 an3 : Option Addr} {sl3 : Array (Option Value)} {oc3 kV3 dc3 pm3 cd3 ct3 : Value}
    {f4 : Addr} {od4 an4 : Option Addr} {sl4 : Array (Option Value)} {oc4 kV4 dc4 pm4 cd4 ct4 : Value}
    {f5 : Addr} {od5 an5 : Option Addr} {sl5 : Array (Option Value)} {oc5 kV5 dc5 pm5 cd5 ct5 : Value}
    {f6 : Addr} {od6 an6 : Option Addr} {sl6 : Array (Option Value)} {oc6 kV6 dc6 pm6 cd6 ct6 : Value}
    {f7 : Addr} {od7 an7 : Option Addr} {sl7 : Array (Option Value)} {oc7 kV7 dc7 pm7 cd7 ct7 : Value}
    {f8 : Addr} {od8 an8 : Option Addr} {sl8 : Array (Option Value)} {oc8 kV8 dc8 pm8 cd8 ct8 : Value}
    {f9 : Addr} {od9 an9 : Option Addr} {sl9 : Array (Option Value)} {oc9 kV9 dc9 pm9 cd9 ct9 : Value}
    {f10 : Addr} {od10 an10 : Option Addr} {sl10 : Array (Option Value)} {oc10 kV10 dc10 pm10 cd10 ct10 : Value}
    {f11 : Addr} {od11 an11 : Option Addr} {sl11 : Array (Option Value)} {oc11 kV11 dc11 pm11 cd11 ct11 : Value}
    {f12 : Addr} {od12 an12 : Option Addr} {sl12 : Array (Option Value)} {oc12 kV12 dc12 pm12 cd12 ct12 : Value}
    {f13 : Addr} {od13 an13 : Option Addr} {sl13 : Array (Option Value)} {oc13 kV13 dc13 pm13 cd13 ct13 : Value}
    {f14 : Addr} {od14 an14 : Option Addr} {sl14 : Array (Option Value)} {oc14 kV14 dc14 pm14 cd14 ct14 : Value}
    {f15 : Addr} {od15 an15 : Option Addr} {sl15 : Array (Option Value)} {oc15 kV15 dc15 pm15 cd15 ct15 : Value}
    {f16 : Addr} {od16 an16 : Option Addr} {sl16 : Array (Option Value)} {oc16 kV16 dc16 pm16 cd16 ct16 : Value}
    {f17 : Addr} {od17 an17 : Option Addr} {sl17 : Array (Option Value)} {oc17 kV17 dc17 pm17 cd17 ct17 : Value}
    {f18 : Addr} {od18 an18 : Option Addr} {sl18 : Array (Option Value)} {oc18 kV18 dc18 pm18 cd18 ct18 : Value}
    {f19 : Addr} {od19 an19 : Option Addr} {sl19 : Array (Option Value)} {oc19 kV19 dc19 pm19 cd19 ct19 : Value}
    {t0 : Tok}
    {e0 : Addr}
    {e1 : Addr}
    (a1 : PySem.W.nsIn K mainGlobals ("is_number" : Str) = some (some (.ref f1)))
    (l1 : K.lookup f1 = some ⟨oc1, od1, .func (PySem.W.fnOf ("is_number" : Str) ("is_number" : Str) (defArgs s_is_number) (defBody s_is_number) (defScope s_is_number) .none kV1 dc1 pm1 an1 cd1 ct1), sl1⟩) (c1 : PySem.W.codeIn K cd1 ("is_number" : Str) = true) (k1 : PySem.W.keepIn K (.ref f1) = true)
    (a2 : PySem.W.nsIn K mainGlobals ("is_sheet" : Str) = some (some (.ref f2)))
    (l2 : K.lookup f2 = some ⟨oc2, od2, .func (PySem.W.fnOf ("is_sheet" : Str) ("is_sheet" : Str) (defArgs s_is_sheet) (defBody s_is_sheet) (defScope s_is_sheet) .none kV2 dc2 pm2 an2 cd2 ct2), sl2⟩) (c2 : PySem.W.codeIn K cd2 ("is_sheet" : Str) = true) (k2 : PySem.W.keepIn K (.ref f2) = true)
    (a3 : PySem.W.nsIn K mainGlobals ("check_solution" : Str) = some (some (.ref f3)))
    (l3 : K.lookup f3 = some ⟨oc3, od3, .func (PySem.W.fnOf ("check_solution" : Str) ("check_solution" : Str) (defArgs s_check_solution) (defBody s_check_solution) (defScope s_check_solution) .none kV3 dc3 pm3 an3 cd3 ct3), sl3⟩) (c3 : PySem.W.codeIn K cd3 ("check_solution" : Str) = true) (k3 : PySem.W.keepIn K (.ref f3) = true)
    (a4 : PySem.W.nsIn K mainGlobals ("check_entry" : Str) = some (some (.ref f4)))
    (l4 : K.lookup f4 = some ⟨oc4, od4, .func (PySem.W.fnOf ("check_entry" : Str) ("check_entry" : Str) (defArgs s_check_entry) (defBody s_check_entry) (defScope s_check_entry) .none kV4 dc4 pm4 an4 cd4 ct4), sl4⟩) (c4 : PySem.W.codeIn K cd4 ("check_entry" : Str) = true) (k4 : PySem.W.keepIn K (.ref f4) = true)
    (a5 : PySem.W.nsIn K mainGlobals ("is_cell" : Str) = some (some (.ref f5)))
    (l5 : K.lookup f5 = some ⟨oc5, od5, .func (PySem.W.fnOf ("is_cell" : Str) ("is_cell" : Str) (defArgs s_is_cell) (defBody s_is_cell) (defScope s_is_cell) .none kV5 dc5 pm5 an5 cd5 ct5), sl5⟩) (c5 : PySem.W.codeIn K cd5 ("is_cell" : Str) = true) (k5 : PySem.W.keepIn K (.ref f5) = true)
    (a6 : PySem.W.nsIn K mainGlobals ("check_lights" : Str) = some (some (.ref f6)))
    (l6 : K.lookup f6 = some ⟨oc6, od6, .func (PySem.W.fnOf ("check_lights" : Str) ("check_lights" : Str) (defArgs s_check_lights) (defBody s_check_lights) (defScope s_check_lights) .none kV6 dc6 pm6 an6 cd6 ct6), sl6⟩) (c6 : PySem.W.codeIn K cd6 ("check_lights" : Str) = true) (k6 : PySem.W.keepIn K (.ref f6) = true)
    (a7 : PySem.W.nsIn K mainGlobals ("marks_of" : Str) = some (some (.ref f7)))
    (l7 : K.lookup f7 = some ⟨oc7, od7, .func (PySem.W.fnOf ("marks_of" : Str) ("marks_of" : Str) (defArgs s_marks_of) (defBody s_marks_of) (defScope s_marks_of) .none kV7 dc7 pm7 an7 cd7 ct7), sl7⟩) (c7 : PySem.W.codeIn K cd7 ("marks_of" : Str) = true) (k7 : PySem.W.keepIn K (.ref f7) = true)
    (a8 : PySem.W.nsIn K mainGlobals ("marked" : Str) = some (some (.ref f8)))
    (l8 : K.lookup f8 = some ⟨oc8, od8, .func (PySem.W.fnOf ("marked" : Str) ("marked" : Str) (defArgs s_marked) (defBody s_marked) (defScope s_marked) .none kV8 dc8 pm8 an8 cd8 ct8), sl8⟩) (c8 : PySem.W.codeIn K cd8 ("marked" : Str) = true) (k8 : PySem.W.keepIn K (.ref f8) = true)
    (a9 : PySem.W.nsIn K mainGlobals ("order_of_entries" : Str) = some (some (.ref f9)))
    (l9 : K.lookup f9 = some ⟨oc9, od9, .func (PySem.W.fnOf ("order_of_entries" : Str) ("order_of_entries" : Str) (defArgs s_order_of_entries) (defBody s_order_of_entries) (defScope s_order_of_entries) .none kV9 dc9 pm9 an9 cd9 ct9), sl9⟩) (c9 : PySem.W.codeIn K cd9 ("order_of_entries" : Str) = true) (k9 : PySem.W.keepIn K (.ref f9) = true)
    (a10 : PySem.W.nsIn K mainGlobals ("_law_mixed" : Str) = some (some (.ref f10)))
    (l10 : K.lookup f10 = some ⟨oc10, od10, .func (PySem.W.fnOf ("_law_mixed" : Str) ("_law_mixed" : Str) (defArgs s_law_mixed) (defBody s_law_mixed) (defScope s_law_mixed) .none kV10 dc10 pm10 an10 cd10 ct10), sl10⟩) (c10 : PySem.W.codeIn K cd10 ("_law_mixed" : Str) = true) (k10 : PySem.W.keepIn K (.ref f10) = true)
    (a11 : PySem.W.nsIn K mainGlobals ("_law_numbers" : Str) = some (some (.ref f11)))
    (l11 : K.lookup f11 = some ⟨oc11, od11, .func (PySem.W.fnOf ("_law_numbers" : Str) ("_law_numbers" : Str) (defArgs s_law_numbers) (defBody s_law_numbers) (defScope s_law_numbers) .none kV11 dc11 pm11 an11 cd11 ct11), sl11⟩) (c11 : PySem.W.codeIn K cd11 ("_law_numbers" : Str) = true) (k11 : PySem.W.keepIn K (.ref f11) = true)
    (a12 : PySem.W.nsIn K mainGlobals ("_law_draw" : Str) = some (some (.ref f12)))
    (l12 : K.lookup f12 = some ⟨oc12, od12, .func (PySem.W.fnOf ("_law_draw" : Str) ("_law_draw" : Str) (defArgs s_law_draw) (defBody s_law_draw) (defScope s_law_draw) .none kV12 dc12 pm12 an12 cd12 ct12), sl12⟩) (c12 : PySem.W.codeIn K cd12 ("_law_draw" : Str) = true) (k12 : PySem.W.keepIn K (.ref f12) = true)
    (a13 : PySem.W.nsIn K mainGlobals ("_law_equal" : Str) = some (some (.ref f13)))
    (l13 : K.lookup f13 = some ⟨oc13, od13, .func (PySem.W.fnOf ("_law_equal" : Str) ("_law_equal" : Str) (defArgs s_law_equal) (defBody s_law_equal) (defScope s_law_equal) .none kV13 dc13 pm13 an13 cd13 ct13), sl13⟩) (c13 : PySem.W.codeIn K cd13 ("_law_equal" : Str) = true) (k13 : PySem.W.keepIn K (.ref f13) = true)
    (a14 : PySem.W.nsIn K mainGlobals ("_law_all_equal" : Str) = some (some (.ref f14)))
    (l14 : K.lookup f14 = some ⟨oc14, od14, .func (PySem.W.fnOf ("_law_all_equal" : Str) ("_law_all_equal" : Str) (defArgs s_law_all_equal) (defBody s_law_all_equal) (defScope s_law_all_equal) .none kV14 dc14 pm14 an14 cd14 ct14), sl14⟩) (c14 : PySem.W.codeIn K cd14 ("_law_all_equal" : Str) = true) (k14 : PySem.W.keepIn K (.ref f14) = true)
    (a15 : PySem.W.nsIn K mainGlobals ("_law_sheet" : Str) = some (some (.ref f15)))
    (l15 : K.lookup f15 = some ⟨oc15, od15, .func (PySem.W.fnOf ("_law_sheet" : Str) ("_law_sheet" : Str) (defArgs s_law_sheet) (defBody s_law_sheet) (defScope s_law_sheet) .none kV15 dc15 pm15 an15 cd15 ct15), sl15⟩) (c15 : PySem.W.codeIn K cd15 ("_law_sheet" : Str) = true) (k15 : PySem.W.keepIn K (.ref f15) = true)
    (a16 : PySem.W.nsIn K mainGlobals ("_law_entry" : Str) = some (some (.ref f16)))
    (l16 : K.lookup f16 = some ⟨oc16, od16, .func (PySem.W.fnOf ("_law_entry" : Str) ("_law_entry" : Str) (defArgs s_law_entry) (defBody s_law_entry) (defScope s_law_entry) .none kV16 dc16 pm16 an16 cd16 ct16), sl16⟩) (c16 : PySem.W.codeIn K cd16 ("_law_entry" : Str) = true) (k16 : PySem.W.keepIn K (.ref f16) = true)
    (a17 : PySem.W.nsIn K mainGlobals ("_law_marked" : Str) = some (some (.ref f17)))
    (l17 : K.lookup f17 = some ⟨oc17, od17, .func (PySem.W.fnOf ("_law_marked" : Str) ("_law_marked" : Str) (defArgs s_law_marked) (defBody s_law_marked) (defScope s_law_marked) .none kV17 dc17 pm17 an17 cd17 ct17), sl17⟩) (c17 : PySem.W.codeIn K cd17 ("_law_marked" : Str) = true) (k17 : PySem.W.keepIn K (.ref f17) = true)
    (a18 : PySem.W.nsIn K mainGlobals ("_law_refused" : Str) = some (some (.ref f18)))
    (l18 : K.lookup f18 = some ⟨oc18, od18, .func (PySem.W.fnOf ("_law_refused" : Str) ("_law_refused" : Str) (defArgs s_law_refused) (defBody s_law_refused) (defScope s_law_refused) .none kV18 dc18 pm18 an18 cd18 ct18), sl18⟩) (c18 : PySem.W.codeIn K cd18 ("_law_refused" : Str) = true) (k18 : PySem.W.keepIn K (.ref f18) = true)
    (a19 : PySem.W.nsIn K mainGlobals ("law" : Str) = some (some (.ref f19)))
    (l19 : K.lookup f19 = some ⟨oc19, od19, .func (PySem.W.fnOf ("law" : Str) ("law" : Str) (defArgs s_law) (defBody s_law) (defScope s_law) .none kV19 dc19 pm19 an19 cd19 ct19), sl19⟩) (c19 : PySem.W.codeIn K cd19 ("law" : Str) = true) (k19 : PySem.W.keepIn K (.ref f19) = true)
    (z0 : PySem.W.nsIn K mainGlobals ("bool" : Str) = some none)
    (z1 : PySem.W.nsIn K mainGlobals ("int" : Str) = some none)
    (z2 : PySem.W.nsIn K mainGlobals ("isinstance" : Str) = some none)
    (z3 : PySem.W.nsIn K mainGlobals ("len" : Str) = some none)
    (z4 : PySem.W.nsIn K mainGlobals ("list" : Str) = some none)
    (z5 : PySem.W.nsIn K mainGlobals ("range" : Str) = some none)
    (z6 : PySem.W.nsIn K mainGlobals ("set" : Str) = some none)
    (z7 : PySem.W.nsIn K mainGlobals ("sorted" : Str) = some none)
    (z8 : PySem.W.nsIn K mainGlobals ("str" : Str) = some none)
    (z9 : PySem.W.nsIn K mainGlobals ("tuple" : Str) = some none)
    (v0 : PySem.W.nsIn K mainGlobals ("LETTERS" : Str) = some (some (.str ("ABCDEFGHIJKLMNOPQRSTUVWXYZ" : Str) t0)))
    (ea0 : PySem.W.nsIn K mainGlobals ("BadRule" : Str) = some (some (.ref e0))) (ex0 : PySem.W.excIn K e0 [.type "ValueError", .type "Exception", .type "BaseException", .type "object"] "ValueError.__new__" = true) (ek0 : PySem.W.keepIn K (.ref e0) = true) (eb0 : PySem.W.subIn K (.ref e0) (.type "BaseException") = some true) (et0 : PySem.W.typeIn K (.ref e0) = some (.type "type")) (ei0 : PySem.W.isClsIn K e0 = true)
    (ea1 : PySem.W.nsIn K mainGlobals ("BadPuzzle" : Str) = some (some (.ref e1))) (ex1 : PySem.W.excIn K e1 [.type "ValueError", .type "Exception", .type "BaseException", .type "object"] "ValueError.__new__" = true) (ek1 : PySem.W.keepIn K (.ref e1) = true) (eb1 : PySem.W.subIn K (.ref e1) (.type "BaseException") = some true) (et1 : PySem.W.typeIn K (.ref e1) = some (.type "type")) (ei1 : PySem.W.isClsIn K e1 = true)
    (s0 : PySem.W.subIn K (.ref e1) (.ref e1) = some true)
    (s1 : PySem.W.subIn K (.ref e1) (.ref e0) = some false)
    (s2 : PySem.W.subIn K (.ref e0) (.ref e1) = some false)
    (s3 : PySem.W.subIn K (.ref e0) (.ref e0) = some true) :
    ∃ fd : FuncData, (∀ (s : Shared) (v : Value), BindsTo s fd ⟨[v], []⟩ [("script", v)]) ∧ ∀ base : Heap, K.In base → base.Ns mainGlobals mg → FnOk l.prog w K mg base (L2.CX l.prog w) 9 fa fd ["script"] (spLaw K) := by
  have e := (PySem.W.mg_of X G a19).symm.trans hfa
  cases e
  let T : TX K mg := {
    f_is_number := f1, d_is_number := _, u_is_number := fun_mk (st := s_is_number) l1 c1 k1, b_is_number := (fun_mk (st := s_is_number) l1 c1 k1).binds (ps := [("value" : Str), ("low" : Str), ("high" : Str)]) (fun _ _ _ _ _ _ us hl => match us, hl with | [_, _, _], _ => rfl),
    g_is_number := PySem.W.mg_of X G a1,
    f_is_sheet := f2, d_is_sheet := _, u_is_sheet := fun_mk (st := s_is_sheet) l2 c2 k2, b_is_sheet := (fun_mk (st := s_is_sheet) l2 c2 k2).binds (ps := [("value" : Str), ("signs" : Str)]) (fun _ _ _ _ _ _ us hl => match us, hl with | [_, _], _ => rfl),
    g_is_sheet := PySem.W.mg_of X G a2,
    f_check_solution := f3, d_check_solution := _, u_check_solution := fun_mk (st := s_check_solution) l3 c3 k3, b_check_solution := (fun_mk (st := s_check_solution) l3 c3 k3).binds (ps := [("solution" : Str)]) (fun _ _ _ _ _ _ us hl => match us, hl with | [_], _ => rfl),
    g_check_solution := PySem.W.mg_of X G a3,
    f_check_entry := f4, d_check_entry := _, u_check_entry := fun_mk (st := s_check_entry) l4 c4 k4, b_check_entry := (fun_mk (st := s_check_entry) l4 c4 k4).binds (ps := [("solution" : Str), ("entry" : Str)]) (fun _ _ _ _ _ _ us hl => match us, hl with | [_, _], _ => rfl),
    g_check_entry := PySem.W.mg_of X G a4,
    f_is_cell := f5, d_is_cell := _, u_is_cell := fun_mk (st := s_is_cell) l5 c5 k5, b_is_cell := (fun_mk (st := s_is_cell) l5 c5 k5).binds (ps := [("value" : Str), ("solution" : Str)]) (fun _ _ _ _ _ _ us hl => match us, hl with | [_, _], _ => rfl),
    g_is_cell := PySem.W.mg_of X G a5,
    f_check_lights := f6, d_check_lights := _, u_check_lights := fun_mk (st := s_check_lights) l6 c6 k6, b_check_lights := (fun_mk (st := s_check_lights) l6 c6 k6).binds (ps := [("solution" : Str), ("lights" : Str)]) (fun _ _ _ _ _ _ us hl => match us, hl with | [_, _], _ => rfl),
    g_check_lights := PySem.W.mg_of X G a6,
    f_marks_of := f7, d_marks_of := _, u_marks_of := fun_mk (st := s_marks_of) l7 c7 k7, b_marks_of := (fun_mk (st := s_marks_of) l7 c7 k7).binds (ps := [("solution" : Str), ("entry" : Str), ("lights" : Str)]) (fun _ _ _ _ _ _ us hl => match us, hl with | [_, _, _], _ => rfl),
    g_marks_of := PySem.W.mg_of X G a7,
    f_marked := f8, d_marked := _, u_marked := fun_mk (st := s_marked) l8 c8 k8, b_marked := (fun_mk (st := s_marked) l8 c8 k8).binds (ps := [("solution" : Str), ("entry" : Str), ("lights" : Str)]) (fun _ _ _ _ _ _ us hl => match us, hl with | [_, _, _], _ => rfl),
    g_marked := PySem.W.mg_of X G a8,
    f_order_of_entries := f9, d_order_of_entries := _, u_order_of_entries := fun_mk (st := s_order_of_entries) l9 c9 k9, b_order_of_entries := (fun_mk (st := s_order_of_entries) l9 c9 k9).binds (ps := [("solution" : Str), ("entries" : Str), ("lights" : Str)]) (fun _ _ _ _ _ _ us hl => match us, hl with | [_, _, _], _ => rfl),
    g_order_of_entries := PySem.W.mg_of X G a9,
    f_law_mixed := f10, d_law_mixed := _, u_law_mixed := fun_mk (st := s_law_mixed) l10 c10 k10, b_law_mixed := (fun_mk (st := s_law_mixed) l10 c10 k10).binds (ps := [("number" : Str), ("k" : Str)]) (fun _ _ _ _ _ _ us hl => match us, hl with | [_, _], _ => rfl),
    g_law_mixed := PySem.W.mg_of X G a10,
    f_law_numbers := f11, d_law_numbers := _, u_law_numbers := fun_mk (st := s_law_numbers) l11 c11 k11, b_law_numbers := (fun_mk (st := s_law_numbers) l11 c11 k11).binds (ps := [("script" : Str)]) (fun _ _ _ _ _ _ us hl => match us, hl with | [_], _ => rfl),
    g_law_numbers := PySem.W.mg_of X G a11,
    f_law_draw := f12, d_law_draw := _, u_law_draw := fun_mk (st := s_law_draw) l12 c12 k12, b_law_draw := (fun_mk (st := s_law_draw) l12 c12 k12).binds (ps := [("draws" : Str), ("many" : Str)]) (fun _ _ _ _ _ _ us hl => match us, hl with | [_, _], _ => rfl),
    g_law_draw := PySem.W.mg_of X G a12,
    f_law_equal := f13, d_law_equal := _, u_law_equal := fun_mk (st := s_law_equal) l13 c13 k13, b_law_equal := (fun_mk (st := s_law_equal) l13 c13 k13).binds (ps := [("actual" : Str), ("due" : Str)]) (fun _ _ _ _ _ _ us hl => match us, hl with | [_, _], _ => rfl),
    g_law_equal := PySem.W.mg_of X G a13,
    f_law_all_equal := f14, d_law_all_equal := _, u_law_all_equal := fun_mk (st := s_law_all_equal) l14 c14 k14, b_law_all_equal := (fun_mk (st := s_law_all_equal) l14 c14 k14).binds (ps := [("actual" : Str), ("due" : Str)]) (fun _ _ _ _ _ _ us hl => match us, hl with | [_, _], _ => rfl),
    g_law_all_equal := PySem.W.mg_of X G a14,
    f_law_sheet := f15, d_law_sheet := _, u_law_sheet := fun_mk (st := s_law_sheet) l15 c15 k15, b_law_sheet := (fun_mk (st := s_law_sheet) l15 c15 k15).binds (ps := [("draws" : Str), ("high" : Str), ("wide" : Str)]) (fun _ _ _ _ _ _ us hl => match us, hl with | [_, _, _], _ => rfl),
    g_law_sheet := PySem.W.mg_of X G a15,
    f_law_entry := f16, d_law_entry := _, u_law_entry := fun_mk (st := s_law_entry) l16 c16 k16, b_law_entry := (fun_mk (st := s_law_entry) l16 c16 k16).binds (ps := [("draws" : Str), ("solution" : Str)]) (fun _ _ _ _ _ _ us hl => match us, hl with | [_, _], _ => rfl),
    g_law_entry := PySem.W.mg_of X G a16,
    f_law_marked := f17, d_law_marked := _, u_law_marked := fun_mk (st := s_law_marked) l17 c17 k17, b_law_marked := (fun_mk (st := s_law_marked) l17 c17 k17).binds (ps := [("solution" : Str), ("entry" : Str), ("lights" : Str)]) (fun _ _ _ _ _ _ us hl => match us, hl with | [_, _, _], _ => rfl),
    g_law_marked := PySem.W.mg_of X G a17,
    f_law_refused := f18, d_law_refused := _, u_law_refused := fun_mk (st := s_law_refused) l18 c18 k18, b_law_refused := (fun_mk (st := s_law_refused) l18 c18 k18).binds (ps := [("what" : Str), ("solution" : Str), ("entry" : Str), ("lights" : Str)]) (fun _ _ _ _ _ _ us hl => match us, hl with | [_, _, _, _], _ => rfl),
    g_law_refused := PySem.W.mg_of X G a18,
    f_law := fa, d_law := _, u_law := fun_mk (st := s_law) l19 c19 k19, b_law := (fun_mk (st := s_law) l19 c19 k19).binds (ps := [("script" : Str)]) (fun _ _ _ _ _ _ us hl => match us, hl with | [_], _ => rfl),
    g_law := PySem.W.mg_of X G a19,
    z_bool := PySem.W.mg_none_of X G z0,
    z_int := PySem.W.mg_none_of X G z1,
    z_isinstance := PySem.W.mg_none_of X G z2,
    z_len := PySem.W.mg_none_of X G z3,
    z_list := PySem.W.mg_none_of X G z4,
    z_range := PySem.W.mg_none_of X G z5,
    z_set := PySem.W.mg_none_of X G z6,
    z_sorted := PySem.W.mg_none_of X G z7,
    z_str := PySem.W.mg_none_of X G z8,
    z_tuple := PySem.W.mg_none_of X G z9,
    k_LETTERS := t0, v_LETTERS := PySem.W.mg_of X G v0,
    c_BadRule := e0, m_BadRule := PySem.W.mg_of X G ea0, x_BadRule := ex0, k_BadRule := ek0, b_BadRule := eb0, t_BadRule := et0,
    c_BadPuzzle := e1, m_BadPuzzle := PySem.W.mg_of X G ea1, x_BadPuzzle := ex1, k_BadPuzzle := ek1, b_BadPuzzle := eb1, t_BadPuzzle := et1,
    sub := fun c h b C e hc => sub_of (P := fun c h b => ∀ C, mg c = some (.ref C) → PySem.W.exmOne K (.ref C) ((mg h).getD .none) = some b) (L := [((("BadPuzzle" : Str), ("BadPuzzle" : Str)), true), ((("BadPuzzle" : Str), ("BadRule" : Str)), false), ((("BadRule" : Str), ("BadPuzzle" : Str)), false), ((("BadRule" : Str), ("BadRule" : Str)), true)]) (List.forall_mem_cons.2 ⟨fun C hc => by
        have e1 := hc.symm.trans (PySem.W.mg_of X G ea1)
        cases e1
        show PySem.W.exmOne K (.ref e1) ((mg ("BadPuzzle" : Str)).getD .none) = some true
        rw [PySem.W.mg_of X G ea1]
        exact exm_pair eb1 eb1 ei1 et1 ei1 et1 s0, List.forall_mem_cons.2 ⟨fun C hc => by
        have e1 := hc.symm.trans (PySem.W.mg_of X G ea1)
        cases e1
        show PySem.W.exmOne K (.ref e1) ((mg ("BadRule" : Str)).getD .none) = some false
        rw [PySem.W.mg_of X G ea0]
        exact exm_pair eb1 eb0 ei1 et1 ei0 et0 s1, List.forall_mem_cons.2 ⟨fun C hc => by
        have e1 := hc.symm.trans (PySem.W.mg_of X G ea0)
        cases e1
        show PySem.W.exmOne K (.ref e0) ((mg ("BadPuzzle" : Str)).getD .none) = some false
        rw [PySem.W.mg_of X G ea1]
        exact exm_pair eb0 eb1 ei0 et0 ei1 et1 s2, List.forall_mem_cons.2 ⟨fun C hc => by
        have e1 := hc.symm.trans (PySem.W.mg_of X G ea0)
        cases e1
        show PySem.W.exmOne K (.ref e0) ((mg ("BadRule" : Str)).getD .none) = some true
        rw [PySem.W.mg_of X G ea0]
        exact exm_pair eb0 eb0 ei0 et0 ei0 et0 s3, List.forall_mem_nil _⟩⟩⟩⟩) c h b e C hc }
  exact ⟨T.d_law, fun s v => .of_eq rfl, fun base _ _ => (ok_law T).imp (law_sp law_true)⟩
end Lw
open PySem PySem.W PyProof.Rows
set_option maxHeartbeats 0 in
theorem PySem.Challenge.cw_everyclue_k64_entries_are_marked_holds : PySem.Challenge.rw_everyclue_k64_entries_are_marked.Holds := by
  w_on; o_law; k_head; (case hw => w_witness2)
  k_fill
  refine Ly.walk_law (l := PySem.Challenge.rw_everyclue_k64_entries_are_marked) (k := 9) rfl rfl ⟨rfl, by decide, by decide⟩ (fun w h Y => PySem.W.kIn_of Y) ?F
  case F =>
    intro w mg fa h KX G hmg
    refine' Lw.all_mk KX G hmg ?a1 ?l1 ?c1 ?k1 ?a2 ?l2 ?c2 ?k2 ?a3 ?l3 ?c3 ?k3 ?a4 ?l4 ?c4 ?k4 ?a5 ?l5 ?c5 ?k5 ?a6 ?l6 ?c6 ?k6 ?a7 ?l7 ?c7 ?k7 ?a8 ?l8 ?c8 ?k8 ?a9 ?l9 ?c9 ?k9 ?a10 ?l10 ?c10 ?k10 ?a11 ?l11 ?c11 ?k11 ?a12 ?l12 ?c12 ?k12 ?a13 ?l13 ?c13 ?k13 ?a14 ?l14 ?c14 ?k14 ?a15 ?l15 ?c15 ?k15 ?a16 ?l16 ?c16 ?k16 ?a17 ?l17 ?c17 ?k17 ?a18 ?l18 ?c18 ?k18 ?a19 ?l19 ?c19 ?k19 ?z0 ?z1 ?z2 ?z3 ?z4 ?z5 ?z6 ?z7 ?z8 ?z9 ?v0 ?ea0 ?ex0 ?ek0 ?eb0 ?et0 ?ei0 ?ea1 ?ex1 ?ek1 ?eb1 ?et1 ?ei1 ?s0 ?s1 ?s2 ?s3
    (case a1 => k_is)
    (case l1 => k_is)
    (case c1 => k_is)
    (case k1 => k_is)
    (case a2 => k_is)
    (case l2 => k_is)
    (case c2 => k_is)
    (case k2 => k_is)
    (case a3 => k_is)
    (case l3 => k_is)
    (case c3 => k_is)
    (case k3 => k_is)
    (case a4 => k_is)
    (case l4 => k_is)
    (case c4 => k_is)
    (case k4 => k_is)
    (case a5 => k_is)
    (case l5 => k_is)
    (case c5 => k_is)
    (case k5 => k_is)
    (case a6 => k_is)
    (case l6 => k_is)
    (case c6 => k_is)
    (case k6 => k_is)
    (case a7 => k_is)
    (case l7 => k_is)
    (case c7 => k_is)
    (case k7 => k_is)
    (case a8 => k_is)
    (case l8 => k_is)
    (case c8 => k_is)
    (case k8 => k_is)
    (case a9 => k_is)
    (case l9 => k_is)
    (case c9 => k_is)
    (case k9 => k_is)
    (case a10 => k_is)
    (case l10 => k_is)
    (case c10 => k_is)
    (case k10 => k_is)
    (case a11 => k_is)
    (case l11 => k_is)
    (case c11 => k_is)
    (case k11 => k_is)
    (case a12 => k_is)
    (case l12 => k_is)
    (case c12 => k_is)
    (case k12 => k_is)
    (case a13 => k_is)
    (case l13 => k_is)
    (case c13 => k_is)
    (case k13 => k_is)
    (case a14 => k_is)
    (case l14 => k_is)
    (case c14 => k_is)
    (case k14 => k_is)
    (case a15 => k_is)
    (case l15 => k_is)
    (case c15 => k_is)
    (case k15 => k_is)
    (case a16 => k_is)
    (case l16 => k_is)
    (case c16 => k_is)
    (case k16 => k_is)
    (case a17 => k_is)
    (case l17 => k_is)
    (case c17 => k_is)
    (case k17 => k_is)
    (case a18 => k_is)
    (case l18 => k_is)
    (case c18 => k_is)
    (case k18 => k_is)
    (case a19 => k_is)
    (case l19 => k_is)
    (case c19 => k_is)
    (case k19 => k_is)
    (case z0 => k_is)
    (case z1 => k_is)
    (case z2 => k_is)
    (case z3 => k_is)
    (case z4 => k_is)
    (case z5 => k_is)
    (case z6 => k_is)
    (case z7 => k_is)
    (case z8 => k_is)
    (case z9 => k_is)
    (case v0 => k_is)
    (case ea0 => k_is)
    (case ex0 => k_exc)
    (case ek0 => k_is)
    (case eb0 => k_is)
    (case et0 => k_is)
    (case ei0 => k_is)
    (case ea1 => k_is)
    (case ex1 => k_exc)
    (case ek1 => k_is)
    (case eb1 => k_is)
    (case et1 => k_is)
    (case ei1 => k_is)
    (case s0 => first | rfl | k_is)
    (case s1 => first | rfl | k_is)
    (case s2 => first | rfl | k_is)
    (case s3 => first | rfl | k_is)
