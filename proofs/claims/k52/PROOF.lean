import PyProof.Rows.All
import Wide.All
import OpenK.AllK
import Wide.FinOn
import HandS.ForMost
import HandS.ForExc
import HandS.TryMany
import HandS.ExcInit
import HandS.ExcField
import HandS.ExcIs
import HandS.IsInst
import HandS.Zip
import HandS.DictTup
import HandS.DictComp
import HandS.SortRule
import HandS.SortInts
import HandS.TupAny
import HandS.TupLe
import HandS.Flow
import HandS.Wide
import HandS.WideMore
import HandS.Defaults
import HandS.More
import KE.GoesMore
import HandS.WordsExc
import KE.KExcIs
import PySem.Challenge.RW_normalrealm_k52_polynomials_by_members
set_option Elab.async false
set_option maxRecDepth 100000
set_option linter.all false
/-! The value layer: data D, owned trees O, what stands for them in the abstract heap. -/
namespace Y
open PySem L2
inductive Kd where
  | tup | lst | scr | dK (ks : List Key) | dT (ks : List (List Key)) | obj (c : Nat)
inductive D where
  | non | bl (b : Bool) | int (i : Int) | str (x : Str)
  | nd (k : Kd) (ds : List D)
inductive O where
  | val (d : D)
  | nd (k : Kd) (os : List O)
mutual
def O.fz : O → D
  | .val d => d
  | .nd k os => .nd k (fzL os)
def fzL : List O → List D
  | [] => []
  | o :: os => O.fz o :: fzL os
end
theorem fzL_map : ∀ os : List O, fzL os = os.map O.fz
  | [] => by simp [fzL]
  | o :: os => by simp [fzL, fzL_map os]
abbrev D.tup (ds : List D) : D := .nd .tup ds
abbrev D.lst (ds : List D) : D := .nd .lst ds
abbrev O.lst (os : List O) : O := .nd .lst os
inductive Root where
  | slot (i : Nat) | tmp (k : Nat)
  deriving DecidableEq
abbrev Tag := Root × List Nat
abbrev Own := Addr → Option Tag
structure Tb where
  K : PySem.W.Frag
  C : Nat → Addr
  fl : Nat → List Str
  B : Nat → Option V
  P : Own → Hp → Prop
  pc : ∀ w H w' H', (∀ a u, w a = none → H a = some u → H' a = some u ∧ w' a = none) → P w H → P w' H'
abbrev Env := List (Option O)
/-- an object of the written part -/
def KL (K : PySem.W.Frag) (a : Addr) (xs : List V) : Prop :=
  ∃ (o : Obj) (its : Array Value) (n : Nat), K.lookup a = some o ∧ o.cls = .type "list" ∧ o.dict = none ∧ o.data = .seq its n ∧ its.size ≤ sizeLine ∧ Vals xs its.toList
def KT (K : PySem.W.Frag) (a : Addr) (xs : List V) : Prop :=
  ∃ (o : Obj) (its : Array Value) (n : Nat), K.lookup a = some o ∧ o.cls = .type "tuple" ∧ o.data = .seq its n ∧ its.size ≤ sizeLine ∧ Vals xs its.toList
def Kd.ho (T : Tb) (dx : Addr) (vs : List V) : Kd → HO
  | .tup => .tup vs
  | .lst => .lst vs
  | .scr => .lst vs
  | .dK ks => .dK (ks.zip vs)
  | .dT ks => .dT (ks.zip vs)
  | .obj c => .ins (T.C c) dx ((T.fl c).zip vs)
/-- how many parts a node of this kind may have -/
def Kd.fit (T : Tb) (n : Nat) : Kd → Prop
  | .dK ks => ks.length = n
  | .dT ks => ks.length = n
  | .obj c => n ≤ (T.fl c).length
  | _ => True
def Kd.hard : Kd → Bool
  | .lst => true
  | .obj _ => true
  | _ => false
/-- what stands at a, never to be changed, is a node of kind k -/
def At (T : Tb) (H : Hp) (w : Own) (a : Addr) (vs : List V) (k : Kd) : Prop :=
  k.fit T vs.length ∧ ((w a = none ∧ ∃ dx, Rd H a (k.ho T dx vs) ∧ (k.hard = true → H a = some (k.ho T dx vs))) ∨ (k = .tup ∧ KT T.K a vs) ∨ (k = .scr ∧ KL T.K a vs))
mutual
def Rep (T : Tb) (H : Hp) (w : Own) : D → V → Prop
  | .non, v => v = .non
  | .bl b, v => v = .bl b
  | .int i, v => v = .int i
  | .str x, v => v = .str x
  | .nd k ds, v => ∃ a vs, v = .ref a ∧ At T H w a vs k ∧ RepL T H w ds vs
def RepL (T : Tb) (H : Hp) (w : Own) : List D → List V → Prop
  | [], vs => vs = []
  | d :: ds, vs => ∃ v ws, vs = v :: ws ∧ Rep T H w d v ∧ RepL T H w ds ws
end
/-! an owned tree: each node's address bears its own tag -/
mutual
def Owns (T : Tb) (H : Hp) (w : Own) : O → V → Tag → Prop
  | .val d, v, _ => Rep T H w d v
  | .nd k os, v, t => ∃ a vs dx, v = .ref a ∧ w a = some t ∧ H a = some (k.ho T dx vs) ∧ k.fit T vs.length ∧ k ≠ .tup ∧ OwnsL T H w os vs t 0
def OwnsL (T : Tb) (H : Hp) (w : Own) : List O → List V → Tag → Nat → Prop
  | [], vs, _, _ => vs = []
  | o :: os, vs, t, j => ∃ v ws, vs = v :: ws ∧ Owns T H w o v (t.1, t.2 ++ [j]) ∧ OwnsL T H w os ws t (j + 1)
end
section
variable {T : Tb} {H H' : Hp} {w w' : Own}
theorem RepL.length : ∀ {ds : List D} {vs : List V}, RepL T H w ds vs → ds.length = vs.length
  | [], vs, h => by simp only [RepL] at h; subst h; rfl
  | d :: ds, vs, h => by
    simp only [RepL] at h
    obtain ⟨v, ws, rfl, _, h⟩ := h
    simp [RepL.length h]
theorem RepL.get : ∀ {ds : List D} {vs : List V} {i : Nat} {d : D}, RepL T H w ds vs → ds[i]? = some d → ∃ v, vs[i]? = some v ∧ Rep T H w d v
  | [], _, _, _, _, e => by simp at e
  | d :: ds, vs, 0, d', h, e => by
    simp only [RepL] at h
    obtain ⟨v, ws, rfl, r, h⟩ := h
    simp at e; subst e
    exact ⟨v, by simp, r⟩
  | d :: ds, vs, i + 1, d', h, e => by
    simp only [RepL] at h
    obtain ⟨v, ws, rfl, r, h⟩ := h
    obtain ⟨v', e', r'⟩ := RepL.get (i := i) h (by simpa using e)
    exact ⟨v', by simpa using e', r'⟩
theorem RepL.get' : ∀ {ds : List D} {vs : List V} {i : Nat} {v : V}, RepL T H w ds vs → vs[i]? = some v → ∃ d, ds[i]? = some d ∧ Rep T H w d v := fun {ds vs i v} h e => by
  have hl := h.length
  obtain ⟨hi, _⟩ := List.getElem?_eq_some_iff.mp e
  have hi' : i < ds.length := by omega
  obtain ⟨v', e', r⟩ := RepL.get (i := i) (d := ds[i]) h (by simp [hi'])
  rw [e] at e'; cases e'
  exact ⟨ds[i], by simp [hi'], r⟩
theorem RepL.append : ∀ {ds es : List D} {vs us : List V}, RepL T H w ds vs → RepL T H w es us → RepL T H w (ds ++ es) (vs ++ us)
  | [], _, _, _, h, h' => by simp only [RepL] at h; subst h; exact h'
  | d :: ds, es, vs, us, h, h' => by
    simp only [RepL] at h
    obtain ⟨v, ws, rfl, r, h⟩ := h
    show RepL T H w (d :: (ds ++ es)) (v :: (ws ++ us))
    simp only [RepL]
    exact ⟨_, _, rfl, r, RepL.append h h'⟩
theorem RepL.one {d : D} {v : V} (r : Rep T H w d v) : RepL T H w [d] [v] := by
  simp only [RepL]; exact ⟨_, _, rfl, r, rfl⟩
theorem RepL.cons {d : D} {v : V} {ds : List D} {vs : List V} (r : Rep T H w d v) (h : RepL T H w ds vs) : RepL T H w (d :: ds) (v :: vs) := by
  simp only [RepL]; exact ⟨_, _, rfl, r, h⟩
theorem RepL.nil : RepL T H w [] [] := by simp only [RepL]
theorem RepL.of_get : ∀ {ds : List D} {vs : List V}, ds.length = vs.length → (∀ (i : Nat) (d : D) (v : V), ds[i]? = some d → vs[i]? = some v → Rep T H w d v) → RepL T H w ds vs
  | [], [], _, _ => .nil
  | d :: ds, v :: vs, e, h => .cons (h 0 d v (by simp) (by simp)) (RepL.of_get (by simpa using e) fun i d' v' e1 e2 => h (i + 1) d' v' (by simpa using e1) (by simpa using e2))
theorem RepL.take {ds : List D} {vs : List V} (n : Nat) (h : RepL T H w ds vs) : RepL T H w (ds.take n) (vs.take n) :=
  RepL.of_get (by simp [h.length]) fun i d v e1 e2 => by
    rw [List.getElem?_take] at e1 e2
    by_cases hi : i < n
    · rw [if_pos hi] at e1 e2
      obtain ⟨v', e, r⟩ := h.get e1
      rw [e2] at e; cases e; exact r
    · rw [if_neg hi] at e1; cases e1
theorem RepL.drop {ds : List D} {vs : List V} (n : Nat) (h : RepL T H w ds vs) : RepL T H w (ds.drop n) (vs.drop n) :=
  RepL.of_get (by simp [h.length]) fun i d v e1 e2 => by
    rw [List.getElem?_drop] at e1 e2
    obtain ⟨v', e, r⟩ := h.get e1
    rw [e2] at e; cases e; exact r
theorem RepL.set {ds : List D} {vs : List V} {d : D} {v : V} (n : Nat) (h : RepL T H w ds vs) (r : Rep T H w d v) : RepL T H w (ds.set n d) (vs.set n v) :=
  RepL.of_get (by simp [h.length]) fun i d' v' e1 e2 => by
    rw [List.getElem?_set] at e1 e2
    have hl := h.length
    by_cases hi : n = i
    · subst hi
      rw [if_pos rfl] at e1 e2
      rw [hl] at e1
      split at e1
      · rename_i hh
        rw [if_pos hh] at e2
        cases e1; cases e2; exact r
      · cases e1
    · rw [if_neg hi] at e1 e2
      obtain ⟨v'', e, r'⟩ := h.get e1
      rw [e2] at e; cases e; exact r'
theorem RepL.reverse {ds : List D} {vs : List V} (h : RepL T H w ds vs) : RepL T H w ds.reverse vs.reverse :=
  RepL.of_get (by simp [h.length]) fun i d v e1 e2 => by
    have hl := h.length
    obtain ⟨h1, _⟩ := List.getElem?_eq_some_iff.mp e1
    rw [List.length_reverse] at h1
    rw [List.getElem?_reverse h1] at e1
    rw [List.getElem?_reverse (by omega)] at e2
    rw [hl] at e1
    obtain ⟨v', e, r⟩ := h.get e1
    rw [e2] at e; cases e; exact r
/-! ### frames -/
theorem At.frame {a : Addr} {vs : List V} {k : Kd} (hf : ∀ a u, w a = none → H a = some u → H' a = some u ∧ w' a = none) (h : At T H w a vs k) : At T H' w' a vs k := by
  obtain ⟨hk, h⟩ := h
  refine ⟨hk, ?_⟩
  rcases h with ⟨hw, dx, hr, ho⟩ | h
  · refine .inl ?_
    rcases hr with hr | ⟨o, hr⟩
    · obtain ⟨e1, e2⟩ := hf a _ hw hr
      exact ⟨e2, dx, .inl e1, fun e => e1⟩
    · obtain ⟨e1, e2⟩ := hf a _ hw hr
      refine ⟨e2, dx, .inr ⟨o, e1⟩, fun e => ?_⟩
      have := ho e
      exact (hf a _ hw this).1
  · exact .inr h
mutual
theorem Rep.frame (hf : ∀ a u, w a = none → H a = some u → H' a = some u ∧ w' a = none) : ∀ (d : D) (v : V), Rep T H w d v → Rep T H' w' d v
  | .non, _, h => by simpa only [Rep] using h
  | .bl _, _, h => by simpa only [Rep] using h
  | .int _, _, h => by simpa only [Rep] using h
  | .str _, _, h => by simpa only [Rep] using h
  | .nd k ds, v, h => by
    simp only [Rep] at h ⊢
    obtain ⟨a, vs, e, ha, hl⟩ := h
    exact ⟨a, vs, e, ha.frame hf, RepL.frame hf ds vs hl⟩
theorem RepL.frame (hf : ∀ a u, w a = none → H a = some u → H' a = some u ∧ w' a = none) : ∀ (ds : List D) (vs : List V), RepL T H w ds vs → RepL T H' w' ds vs
  | [], _, h => by simpa only [RepL] using h
  | d :: ds, vs, h => by
    simp only [RepL] at h ⊢
    obtain ⟨v, ws, e, r, hl⟩ := h
    exact ⟨v, ws, e, Rep.frame hf d v r, RepL.frame hf ds ws hl⟩
end
mutual
theorem Owns.frame (hf : ∀ a u, w a = none → H a = some u → H' a = some u ∧ w' a = none) : ∀ (o : O) (v : V) (t t' : Tag), (∀ a u s, w a = some (t.1, t.2 ++ s) → H a = some u → H' a = some u ∧ w' a = some (t'.1, t'.2 ++ s)) → Owns T H w o v t → Owns T H' w' o v t'
  | .val d, v, _, _, _, h => by simp only [Owns] at h ⊢; exact Rep.frame hf d v h
  | .nd k os, v, t, t', ht, h => by
    simp only [Owns] at h ⊢
    obtain ⟨a, vs, dx, e, hw, ha, hk, nt, hl⟩ := h
    obtain ⟨e1, e2⟩ := ht a _ [] (by simpa using hw) ha
    exact ⟨a, vs, dx, e, by simpa using e2, e1, hk, nt, OwnsL.frame hf os vs t t' 0 ht hl⟩
theorem OwnsL.frame (hf : ∀ a u, w a = none → H a = some u → H' a = some u ∧ w' a = none) : ∀ (os : List O) (vs : List V) (t t' : Tag) (j : Nat), (∀ a u s, w a = some (t.1, t.2 ++ s) → H a = some u → H' a = some u ∧ w' a = some (t'.1, t'.2 ++ s)) → OwnsL T H w os vs t j → OwnsL T H' w' os vs t' j
  | [], _, _, _, _, _, h => by simpa only [OwnsL] using h
  | o :: os, vs, t, t', j, ht, h => by
    simp only [OwnsL] at h ⊢
    obtain ⟨v, ws, e, ho, hl⟩ := h
    refine ⟨v, ws, e, Owns.frame hf o v (t.1, t.2 ++ [j]) (t'.1, t'.2 ++ [j]) (fun a u s hw hh => ?_) ho, OwnsL.frame hf os ws t t' (j + 1) ht hl⟩
    have := ht a u ([j] ++ s) (by simpa using hw) hh
    simpa using this
end
/-- nothing owned: the tag is of no matter -/
theorem Owns.val {d : D} {v : V} {t : Tag} : Owns T H w (.val d) v t ↔ Rep T H w d v := by simp only [Owns]
theorem OwnsL.length : ∀ {os : List O} {vs : List V} {t : Tag} {j : Nat}, OwnsL T H w os vs t j → os.length = vs.length
  | [], vs, _, _, h => by simp only [OwnsL] at h; subst h; rfl
  | o :: os, vs, t, j, h => by
    simp only [OwnsL] at h
    obtain ⟨v, ws, rfl, _, h⟩ := h
    simp [OwnsL.length h]
theorem OwnsL.get : ∀ {os : List O} {vs : List V} {t : Tag} {j i : Nat} {o : O}, OwnsL T H w os vs t j → os[i]? = some o → ∃ v, vs[i]? = some v ∧ Owns T H w o v (t.1, t.2 ++ [j + i])
  | [], _, _, _, _, _, _, e => by simp at e
  | o :: os, vs, t, j, 0, o', h, e => by
    simp only [OwnsL] at h
    obtain ⟨v, ws, rfl, r, h⟩ := h
    simp at e; subst e
    exact ⟨v, by simp, r⟩
  | o :: os, vs, t, j, i + 1, o', h, e => by
    simp only [OwnsL] at h
    obtain ⟨v, ws, rfl, r, h⟩ := h
    obtain ⟨v', e', r'⟩ := OwnsL.get (i := i) h (by simpa using e)
    exact ⟨v', by simpa using e', by rw [Nat.add_right_comm] at r'; exact r'⟩
theorem OwnsL.of_get : ∀ {os : List O} {vs : List V} {t : Tag} {j : Nat}, os.length = vs.length → (∀ (i : Nat) (o : O) (v : V), os[i]? = some o → vs[i]? = some v → Owns T H w o v (t.1, t.2 ++ [j + i])) → OwnsL T H w os vs t j
  | [], [], _, _, _, _ => by simp only [OwnsL]
  | o :: os, v :: vs, t, j, e, h => by
    simp only [OwnsL]
    refine ⟨v, vs, rfl, h 0 o v (by simp) (by simp), OwnsL.of_get (by simpa using e) fun i o' v' e1 e2 => ?_⟩
    have := h (i + 1) o' v' (by simpa using e1) (by simpa using e2)
    rw [Nat.add_right_comm, Nat.add_assoc]
    exact this
mutual
theorem Owns.thaw (hf : ∀ a u, w a = none → H a = some u → H' a = some u ∧ w' a = none) : ∀ (o : O) (v : V) (t : Tag), (∀ a u s, w a = some (t.1, t.2 ++ s) → H a = some u → H' a = some u ∧ w' a = none) → Owns T H w o v t → Rep T H' w' o.fz v
  | .val d, v, _, _, h => by simp only [Owns] at h; simp only [O.fz]; exact Rep.frame hf d v h
  | .nd k os, v, t, ht, h => by
    simp only [Owns] at h
    obtain ⟨a, vs, dx, e, hw, ha, hk, nt, hl⟩ := h
    obtain ⟨e1, e2⟩ := ht a _ [] (by simpa using hw) ha
    simp only [O.fz, Rep]
    exact ⟨a, vs, e, ⟨hk, .inl ⟨e2, dx, .inl e1, fun e => e1⟩⟩, OwnsL.thaw hf os vs t 0 ht hl⟩
theorem OwnsL.thaw (hf : ∀ a u, w a = none → H a = some u → H' a = some u ∧ w' a = none) : ∀ (os : List O) (vs : List V) (t : Tag) (j : Nat), (∀ a u s, w a = some (t.1, t.2 ++ s) → H a = some u → H' a = some u ∧ w' a = none) → OwnsL T H w os vs t j → RepL T H' w' (fzL os) vs
  | [], vs, _, _, _, h => by simp only [OwnsL] at h; simp only [fzL, RepL]; exact h
  | o :: os, vs, t, j, ht, h => by
    simp only [OwnsL] at h
    obtain ⟨v, ws, e, ho, hl⟩ := h
    simp only [fzL, RepL]
    refine ⟨v, ws, e, Owns.thaw hf o v (t.1, t.2 ++ [j]) (fun a u s hw hh => ?_) ho, OwnsL.thaw hf os ws t (j + 1) ht hl⟩
    have := ht a u ([j] ++ s) (by simpa using hw) hh
    simpa using this
end
end
end Y
set_option Elab.async false
set_option maxRecDepth 100000
set_option linter.all false
/-! The value layer: the state relation, the judgements by values. -/
namespace Y
open PySem L2
/-- what is wanted of the state: the slots' values, the temporaries' tags below r -/
structure SR (T : Tb) (r : Nat) (w : Own) (σ : L2.St) (H : Hp) (ρ : Env) : Prop where
  ln : σ.length = ρ.length
  sl : ∀ (i : Nat) (o : O), ρ[i]? = some (some o) → ∃ v, σ[i]? = some (some v) ∧ Owns T H w o v (.slot i, [])
  tm : ∀ a k π, w a = some (.tmp k, π) → k < r
  dm : ∀ a t, w a = some t → H a ≠ none
  fx : ∀ j v, T.B j = some v → σ[j]? = some (some v)
  pp : T.P w H
def IsTmp (t : Option Tag) : Prop := ∃ k π, t = some (.tmp k, π)
/-- what stands aside stays -/
def Evo (w : Own) (H : Hp) (w' : Own) (H' : Hp) : Prop := ∀ a u, (w a = none ∨ IsTmp (w a)) → H a = some u → H' a = some u ∧ w' a = w a
theorem Evo.refl {w : Own} {H : Hp} : Evo w H w H := fun _ _ _ h => ⟨h, rfl⟩
theorem Evo.trans {w w1 w2 : Own} {H H1 H2 : Hp} (a : Evo w H w1 H1) (b : Evo w1 H1 w2 H2) : Evo w H w2 H2 := fun c u hc hu => by
  obtain ⟨e1, e2⟩ := a c u hc hu
  obtain ⟨e3, e4⟩ := b c u (by rw [e2]; exact hc) e1
  exact ⟨e3, e4.trans e2⟩
theorem Evo.fz {w w' : Own} {H H' : Hp} (e : Evo w H w' H') : ∀ a u, w a = none → H a = some u → H' a = some u ∧ w' a = none := fun a u hw hu => by
  obtain ⟨e1, e2⟩ := e a u (.inl hw) hu
  exact ⟨e1, e2.trans hw⟩
section
variable {T : Tb} {H H' : Hp} {w w' : Own}
theorem Rep.evo {d : D} {v : V} (h : Rep T H w d v) (e : Evo w H w' H') : Rep T H' w' d v := Rep.frame e.fz d v h
theorem RepL.evo {d : List D} {v : List V} (h : RepL T H w d v) (e : Evo w H w' H') : RepL T H' w' d v := RepL.frame e.fz d v h
theorem Owns.evo {o : O} {v : V} {k : Nat} {π : List Nat} (h : Owns T H w o v (.tmp k, π)) (e : Evo w H w' H') : Owns T H' w' o v (.tmp k, π) :=
  Owns.frame e.fz o v _ _ (fun a u s hw hu => by
    obtain ⟨e1, e2⟩ := e a u (.inr ⟨k, _, hw⟩) hu
    exact ⟨e1, e2.trans hw⟩) h
/-- a slot's tree, where its objects stay -/
theorem Owns.slot {o : O} {v : V} {t : Tag} (h : Owns T H w o v t) (fz : ∀ a u, w a = none → H a = some u → H' a = some u ∧ w' a = none)
    (k : ∀ a u s, w a = some (t.1, t.2 ++ s) → H a = some u → H' a = some u ∧ w' a = w a) : Owns T H' w' o v t :=
  Owns.frame fz o v _ _ (fun a u s hw hu => by
    obtain ⟨e1, e2⟩ := k a u s hw hu
    exact ⟨e1, e2.trans hw⟩) h
end
/-- all that is there stays as it is, with its tags -/
theorem SR.stay {T : Tb} {r r' : Nat} {w w' : Own} {σ : L2.St} {H H' : Hp} {ρ : Env} (h : SR T r w σ H ρ) (k : ∀ a u, H a = some u → H' a = some u ∧ w' a = w a) (tm : ∀ a k π, w' a = some (.tmp k, π) → k < r')
    (dm : ∀ a t, w' a = some t → H' a ≠ none) : SR T r' w' σ H' ρ where
  ln := h.ln
  sl := fun i o e => by
    obtain ⟨v, e1, ow⟩ := h.sl i o e
    exact ⟨v, e1, ow.slot (fun a u hw hu => by obtain ⟨e1, e2⟩ := k a u hu; exact ⟨e1, e2.trans hw⟩) fun a u s _ hu => k a u hu⟩
  tm := tm
  dm := dm
  fx := h.fx
  pp := T.pc _ _ _ _ (fun a u hw hu => ⟨(k a u hu).1, (k a u hu).2.trans hw⟩) h.pp
theorem SR.same {T : Tb} {r : Nat} {w : Own} {σ : L2.St} {H H' : Hp} {ρ : Env} (h : SR T r w σ H ρ) (k : Same H H') : SR T r w σ H' ρ :=
  h.stay (fun a u hu => ⟨k a u hu, rfl⟩) h.tm fun a t e z => by
    cases q : H a with
    | none => exact h.dm a t e q
    | some u => rw [k a u q] at z; cases z
theorem Evo.same {w : Own} {H H' : Hp} (k : Same H H') : Evo w H w H' := fun a u _ hu => ⟨k a u hu, rfl⟩
theorem same_upd {H : Hp} {p : Addr} {o : HO} (hp : H p = none) : Same H (upd H p o) := fun b u e => by rw [upd_ne (ne_of_none e hp)]; exact e
theorem SR.fresh {T : Tb} {r : Nat} {w : Own} {σ : L2.St} {H : Hp} {ρ : Env} (h : SR T r w σ H ρ) {p : Addr} (hp : H p = none) : w p = none := by
  cases q : w p with
  | none => rfl
  | some t => exact absurd hp (h.dm p t q)
/-! ### answers -/
inductive Res (α : Type) where
  | ok (a : α)
  | er (c : Nat) (ds : List D) (ρ : Env)
  | stuck
abbrev M (α : Type) := Env → Res (α × Env)
def mret {α : Type} (a : α) : M α := fun ρ => .ok (a, ρ)
def mbind {α β : Type} (f : M α) (g : α → M β) : M β := fun ρ => match f ρ with
  | .ok (a, ρ') => g a ρ'
  | .er c ds ρ' => .er c ds ρ'
  | .stuck => .stuck
/-- a step that reckons with values alone -/
def mlift {α : Type} (x : Option α) : M α := fun ρ => match x with
  | some a => .ok (a, ρ)
  | none => .stuck
def mstuck {α : Type} : M α := fun _ => .stuck
/-- an exception of class c, its fields ds -/
def Exc (T : Tb) (H : Hp) (w : Own) (c : Nat) (ds : List D) (cls : Value) (dd : Option Addr) : Prop :=
  cls = .ref (T.C c) ∧ ∃ d fs vs, dd = some d ∧ H d = some (.xd fs) ∧ w d = none ∧ RepL T H w ds vs ∧ vs.length = (T.fl c).length ∧ ∀ (i : Nat) (f : Str), (T.fl c)[i]? = some f → fs.lookup f = vs[i]?
section
variable {α β γ δ : Type}
def Post (T : Tb) (W : WX) (w : Own) (H : Hp) (σ : L2.St) (r' : Nat) (R : Hp → Own → α → β → Prop) (res : Res (α × Env)) (Q : β → Hp → Prop) : Prop :=
  match res with
  | .ok (a, ρ') => ∀ b H' w', SR T r' w' σ H' ρ' → R H' w' a b → Evo w H w' H' → Q b H'
  | .er c ds ρ' => ∀ r cls dd H' w', SR T r w' σ H' ρ' → Exc T H' w' c ds cls dd → Evo w H w' H' → W cls dd σ H'
  | .stuck => False
variable {T : Tb} {W : WX} {w : Own} {H : Hp} {σ : L2.St}
theorem Post.bind {r1 r2 : Nat} {R1 : Hp → Own → α → β → Prop} {R2 : Hp → Own → γ → δ → Prop} {f : M α} {g : α → M γ} {ρ : Env} {Q : δ → Hp → Prop} {Q1 : β → Hp → Prop}
    (h : Post T W w H σ r2 R2 (mbind f g ρ) Q)
    (k : ∀ a ρ1 b H1 w1, SR T r1 w1 σ H1 ρ1 → R1 H1 w1 a b → Evo w H w1 H1 → Post T W w1 H1 σ r2 R2 (g a ρ1) Q → Q1 b H1) : Post T W w H σ r1 R1 (f ρ) Q1 := by
  unfold mbind at h
  cases e : f ρ with
  | ok p =>
    obtain ⟨a, ρ1⟩ := p
    rw [e] at h
    intro b H1 w1 s1 q1 ev
    refine k a ρ1 b H1 w1 s1 q1 ev ?_
    dsimp only at h
    revert h
    cases g a ρ1 with
    | ok p => intro h b' H' w' s' q' ev'; exact h b' H' w' s' q' (ev.trans ev')
    | er c ds ρ2 => intro h r cls dd H' w' s' x ev'; exact h r cls dd H' w' s' x (ev.trans ev')
    | stuck => exact fun h => h
  | er c ds ρ1 => rw [e] at h; exact h
  | stuck => rw [e] at h; exact h
theorem Post.mono {r1 : Nat} {R1 : Hp → Own → α → β → Prop} {res : Res (α × Env)} {Q Q1 : β → Hp → Prop} (h : Post T W w H σ r1 R1 res Q) (k : ∀ b H', Q b H' → Q1 b H') : Post T W w H σ r1 R1 res Q1 := by
  cases res with
  | ok p => exact fun b H' w' s q e => k _ _ (h b H' w' s q e)
  | er c ds ρ => exact h
  | stuck => exact h
/-- an answer, with what is there as it is -/
theorem Post.ret {r2 : Nat} {R2 : Hp → Own → α → β → Prop} {a : α} {ρ : Env} {Q : β → Hp → Prop} (h : Post T W w H σ r2 R2 (.ok (a, ρ)) Q) {b : β} (s : SR T r2 w σ H ρ) (q : R2 H w a b) : Q b H := h b H w s q .refl
/-- .. with a new object -/
theorem Post.new {r2 : Nat} {R2 : Hp → Own → α → β → Prop} {a : α} {ρ : Env} {Q : β → Hp → Prop} (h : Post T W w H σ r2 R2 (.ok (a, ρ)) Q) {b : β} {H' : Hp} (s : SR T r2 w σ H ρ) (k : Same H H') (q : R2 H' w a b) : Q b H' :=
  h b H' w (s.same k) q (.same k)
theorem Post.lift {r2 : Nat} {R2 : Hp → Own → γ → δ → Prop} {x : Option α} {g : α → M γ} {ρ : Env} {Q : δ → Hp → Prop} (h : Post T W w H σ r2 R2 (mbind (mlift x) g ρ) Q) : ∃ a, x = some a ∧ Post T W w H σ r2 R2 (g a ρ) Q := by
  cases x with
  | none => exact h.elim
  | some a => exact ⟨a, rfl, h⟩
end
/-! ### the code's own meanings, as readings -/
section
open PySem.Spec PyProof.Rows
@[irreducible] def sE (X : Cx) (e : Expr) : TE := fun σ H Q => ∀ (pins : List (Addr × Obj)) (s : Shared), Inv X pins σ H s → wpAny (model X.prog X.w) X.A (eval e X.env) (EP X pins σ Q) X.xe s
@[irreducible] def sT (X : Cx) (e : Expr) : TT := fun σ H Q => ∀ (pins : List (Addr × Obj)) (s : Shared), Inv X pins σ H s → wpAny (model X.prog X.w) X.A (isTrue e X.env (eval e X.env)) (TP X pins σ Q) X.xe s
@[irreducible] def sW (X : Cx) (e : Expr) : TT := fun σ H Q => ∀ (whole : Sem Value) (pins : List (Addr × Obj)) (s : Shared), Inv X pins σ H s → wpAny (model X.prog X.w) X.A (isTrue e X.env whole) (TP X pins σ Q) X.xe s
@[irreducible] def sA (X : Cx) (es : List Expr) : TA := fun σ H Q => ∀ (pos : Pos) (pins : List (Addr × Obj)) (s : Shared), Inv X pins σ H s → wpAny (model X.prog X.w) X.A (spliced (backTo pos (starEach es X.env))) (AP X pins σ Q) X.xe s
@[irreducible] def sS (X : Cx) (st : Stmt) : TS := fun D σ H => ∀ (pins : List (Addr × Obj)) (s : Shared), Inv X pins σ H s → wpAny (model X.prog X.w) X.A (exec st X.env) (SP X pins D) X.xe s
@[irreducible] def sB (X : Cx) (st : List Stmt) : TS := fun D σ H => ∀ (pins : List (Addr × Obj)) (s : Shared), Inv X pins σ H s → wpAny (model X.prog X.w) X.A (execs st X.env) (SP X pins D) X.xe s
variable {X : Cx} {e : Expr} {es : List Expr} {st : Stmt} {sts : List Stmt} {σ : L2.St} {H : Hp}
theorem pe_s : PE X e (sE X e) := ⟨fun pins s _ _ _ I h => by unfold sE at h; exact h pins s I⟩
theorem pt_s : PT X e (sT X e) := ⟨fun pins s _ _ _ I h => by unfold sT at h; exact h pins s I⟩
theorem pw_s : PW X e (sW X e) := ⟨fun wh pins s _ _ _ I h => by unfold sW at h; exact h wh pins s I⟩
theorem pa_s : PA X es (sA X es) := ⟨fun pos pins s _ _ _ I h => by unfold sA at h; exact h pos pins s I⟩
theorem ps_s : PS X st (sS X st) := ⟨fun pins s _ _ _ I h => by unfold sS at h; exact h pins s I⟩
theorem pb_s : PSs X sts (sB X sts) := ⟨fun pins s _ _ _ I h => by unfold sB at h; exact h pins s I⟩
theorem sE_of {t : TE} {Q : VK} (h : PE X e t) (q : t σ H Q) : sE X e σ H Q := by unfold sE; exact fun pins s I => h.run pins s σ H Q I q
theorem sT_of {t : TT} {Q : Bool → Hp → Prop} (h : PT X e t) (q : t σ H Q) : sT X e σ H Q := by unfold sT; exact fun pins s I => h.run pins s σ H Q I q
theorem sW_of {t : TT} {Q : Bool → Hp → Prop} (h : PW X e t) (q : t σ H Q) : sW X e σ H Q := by unfold sW; exact fun wh pins s I => h.run wh pins s σ H Q I q
theorem sA_of {t : TA} {Q : List V → Hp → Prop} (h : PA X es t) (q : t σ H Q) : sA X es σ H Q := by unfold sA; exact fun pos pins s I => h.run pos pins s σ H Q I q
theorem sS_of {t : TS} {D : Ends} (h : PS X st t) (q : t D σ H) : sS X st D σ H := by unfold sS; exact fun pins s I => h.run pins s σ H D I q
theorem sB_of {t : TS} {D : Ends} (h : PSs X sts t) (q : t D σ H) : sB X sts D σ H := by unfold sB; exact fun pins s I => h.run pins s σ H D I q
end
/-! ### the judgements by values -/
section
variable (T : Tb) (X : Cx) (W : WX)
/-- an expression that gives a value which stands for good -/
def EV (e : Expr) (f : M D) : Prop := ∀ r w σ H ρ Q, SR T r w σ H ρ → Post T W w H σ r (Rep T) (f ρ) Q → sE X e σ H Q
/-- an expression that gives an owned tree -/
def EO (e : Expr) (f : M O) : Prop := ∀ r w σ H ρ Q, SR T r w σ H ρ → Post T W w H σ (r + 1) (fun H w o v => Owns T H w o v (.tmp r, [])) (f ρ) Q → sE X e σ H Q
/-- a test -/
def TV (e : Expr) (f : M Bool) : Prop := ∀ r w σ H ρ Q, SR T r w σ H ρ → Post T W w H σ r (fun _ _ (a b : Bool) => a = b) (f ρ) Q → sT X e σ H Q
def WV (e : Expr) (f : M Bool) : Prop := ∀ r w σ H ρ Q, SR T r w σ H ρ → Post T W w H σ r (fun _ _ (a b : Bool) => a = b) (f ρ) Q → sW X e σ H Q
/-- values in a row -/
structure AV (es : List Expr) (f : M (List D)) : Prop where
  len : ∀ ρ ds ρ', f ρ = .ok (ds, ρ') → ds.length = es.length
  run : ∀ r w σ H ρ Q, SR T r w σ H ρ → Post T W w H σ r (RepL T) (f ρ) Q → sA X es σ H Q
end
end Y
set_option Elab.async false
set_option maxRecDepth 100000
set_option linter.all false
/-! The value layer: expressions. -/
namespace Y
open PySem L2
open PySem.Spec PyProof.Rows
/-! ### what a value's node is to the abstract heap -/
section
variable {T : Tb} {H H' : Hp} {w w' : Own} {v : V}
theorem Rep.node {k : Kd} {ds : List D} : Rep T H w (.nd k ds) v ↔ ∃ a vs, v = .ref a ∧ At T H w a vs k ∧ RepL T H w ds vs := by simp only [Rep]
theorem Rep.int_ {i : Int} : Rep T H w (.int i) v ↔ v = .int i := by simp only [Rep]
theorem Rep.bl_ {i : Bool} : Rep T H w (.bl i) v ↔ v = .bl i := by simp only [Rep]
theorem Rep.str_ {i : Str} : Rep T H w (.str i) v ↔ v = .str i := by simp only [Rep]
theorem Rep.non_ : Rep T H w .non v ↔ v = .non := by simp only [Rep]
theorem At.tup {a : Addr} {vs : List V} (h : At T H w a vs .tup) : SqT T.K H a vs := by
  obtain ⟨_, ⟨_, _, h, _⟩ | ⟨_, h⟩ | ⟨e, _⟩⟩ := h
  · exact .inl h
  · exact .inr h
  · cases e
theorem At.lst {a : Addr} {vs : List V} (h : At T H w a vs .lst) : H a = some (.lst vs) := by
  obtain ⟨_, ⟨_, _, _, h⟩ | ⟨e, _⟩ | ⟨e, _⟩⟩ := h
  · exact h rfl
  · cases e
  · cases e
theorem At.scr {a : Addr} {vs : List V} (h : At T H w a vs .scr) : SqL T.K H a vs := by
  obtain ⟨_, ⟨_, _, h, _⟩ | ⟨e, _⟩ | ⟨_, h⟩⟩ := h
  · exact .inl h
  · cases e
  · exact .inr h
theorem At.sql {a : Addr} {vs : List V} (h : At T H w a vs .lst) : SqL T.K H a vs := SqL.of h.lst
theorem At.newT {p : Addr} {vs : List V} (hp : w p = none) : At T (upd H p (.tup vs)) w p vs .tup := ⟨trivial, .inl ⟨hp, 0, .inl upd_same, fun e => by cases e⟩⟩
theorem At.newL {p : Addr} {vs : List V} (hp : w p = none) : At T (upd H p (.lst vs)) w p vs .lst := ⟨trivial, .inl ⟨hp, 0, .inl upd_same, fun _ => upd_same⟩⟩
theorem Rep.same {d : D} (h : Rep T H w d v) (s : Same H H') : Rep T H' w d v := h.evo (.same s)
theorem RepL.same {ds : List D} {vs : List V} (h : RepL T H w ds vs) (s : Same H H') : RepL T H' w ds vs := h.evo (.same s)
/-- a new tuple -/
theorem Rep.newT {p : Addr} {ds : List D} {vs : List V} (h : RepL T H w ds vs) (hn : H p = none) (hp : w p = none) : Rep T (upd H p (.tup vs)) w (.nd .tup ds) (.ref p) :=
  Rep.node.mpr ⟨p, vs, rfl, .newT hp, h.same (same_upd hn)⟩
theorem Rep.newL {p : Addr} {ds : List D} {vs : List V} (h : RepL T H w ds vs) (hn : H p = none) (hp : w p = none) : Rep T (upd H p (.lst vs)) w (.nd .lst ds) (.ref p) :=
  Rep.node.mpr ⟨p, vs, rfl, .newL hp, h.same (same_upd hn)⟩
/-- all ints -/
def intsD : List D → Option (List Int)
  | [] => some []
  | .int i :: ds => (intsD ds).map (i :: ·)
  | _ :: _ => none
theorem RepL.ints : ∀ {ds : List D} {vs : List V} {ns : List Int}, RepL T H w ds vs → intsD ds = some ns → vs = ns.map V.int
  | [], vs, ns, h, e => by simp only [RepL] at h; simp only [intsD, Option.some.injEq] at e; subst h; subst e; rfl
  | .int i :: ds, vs, ns, h, e => by
    simp only [RepL, Rep.int_] at h
    obtain ⟨v, ws, rfl, rfl, h⟩ := h
    simp only [intsD, Option.map_eq_some_iff] at e
    obtain ⟨ms, e, rfl⟩ := e
    rw [RepL.ints h e]; rfl
  | .non :: ds, vs, ns, h, e => by simp [intsD] at e
  | .bl _ :: ds, vs, ns, h, e => by simp [intsD] at e
  | .str _ :: ds, vs, ns, h, e => by simp [intsD] at e
  | .nd _ _ :: ds, vs, ns, h, e => by simp [intsD] at e
theorem intsD_map (ns : List Int) : intsD (ns.map D.int) = some ns := by
  induction ns with
  | nil => rfl
  | cons n ns ih => simp [intsD, ih]
theorem repL_ints (ns : List Int) : RepL T H w (ns.map D.int) (ns.map V.int) := by
  induction ns with
  | nil => exact .nil
  | cons n ns ih => exact .cons (Rep.int_.mpr rfl) ih
end
/-! ### steps of the answers -/
def m1 (g : D → Option D) (f : M D) : M D := mbind f fun a => mlift (g a)
def m2 (g : D → D → Option D) (fa fb : M D) : M D := mbind fa fun a => mbind fb fun b => mlift (g a b)
def mL (g : List D → Option D) (f : M (List D)) : M D := mbind f fun a => mlift (g a)
/-- .. giving a new list, owned -/
def nl (ds : List D) : O := .nd .lst (ds.map .val)
def o1 (g : D → Option (List D)) (f : M D) : M O := mbind f fun a => mbind (mlift (g a)) fun l => mret (nl l)
def o2 (g : D → D → Option (List D)) (fa fb : M D) : M O := mbind fa fun a => mbind fb fun b => mbind (mlift (g a b)) fun l => mret (nl l)
def oL (g : List D → Option (List D)) (f : M (List D)) : M O := mbind f fun a => mbind (mlift (g a)) fun l => mret (nl l)
def mfz (f : M O) : M D := mbind f fun o => mret o.fz
theorem nl_fz (ds : List D) : (nl ds).fz = .nd .lst ds := by
  unfold nl
  simp only [O.fz, fzL_map, List.map_map, D.nd.injEq, true_and]
  induction ds with
  | nil => rfl
  | cons d ds ih => simp only [List.map_cons, ih, Function.comp, O.fz]
section
variable {T : Tb} {X : Cx} {W : WX}
theorem Post.lift1 {α β : Type} {w : Own} {H : Hp} {σ : L2.St} {r : Nat} {R : Hp → Own → α → β → Prop} {x : Option α} {ρ : Env} {Q : β → Hp → Prop} (h : Post T W w H σ r R (mlift x ρ) Q) : ∃ d, x = some d ∧ Post T W w H σ r R (.ok (d, ρ)) Q := by
  cases x with
  | none => exact h.elim
  | some d => exact ⟨d, rfl, h⟩
/-! rules by values: what the reading asks holds -/
/-- w stands aside of what is free -/
def Fr (w : Own) (H : Hp) : Prop := ∀ p, H p = none → w p = none
theorem SR.fr {r : Nat} {w : Own} {σ : L2.St} {H : Hp} {ρ : Env} (s : SR T r w σ H ρ) : Fr w H := fun _ hp => s.fresh hp
def R1D (T : Tb) (rr : V → Hp → VK → Prop) (g : D → Option D) : Prop := ∀ w H a d x Q, Fr w H → g a = some d → Rep T H w a x → (∀ v H', Same H H' → Rep T H' w d v → Q v H') → rr x H Q
def R2D (T : Tb) (rr : R2) (g : D → D → Option D) : Prop := ∀ w H a b d x y Q, Fr w H → g a b = some d → Rep T H w a x → Rep T H w b y → (∀ v H', Same H H' → Rep T H' w d v → Q v H') → rr x y H Q
def RLD (T : Tb) (rr : List V → Hp → VK → Prop) (g : List D → Option D) : Prop := ∀ w H as d xs Q, Fr w H → g as = some d → RepL T H w as xs → (∀ v H', Same H H' → Rep T H' w d v → Q v H') → rr xs H Q
def R1L (T : Tb) (rr : V → Hp → VK → Prop) (g : D → Option (List D)) : Prop := ∀ w H a ds x Q, Fr w H → g a = some ds → Rep T H w a x → (∀ p vs, H p = none → RepL T H w ds vs → Q (.ref p) (upd H p (.lst vs))) → rr x H Q
def R2L (T : Tb) (rr : R2) (g : D → D → Option (List D)) : Prop := ∀ w H a b ds x y Q, Fr w H → g a b = some ds → Rep T H w a x → Rep T H w b y → (∀ p vs, H p = none → RepL T H w ds vs → Q (.ref p) (upd H p (.lst vs))) → rr x y H Q
def RLL (T : Tb) (rr : List V → Hp → VK → Prop) (g : List D → Option (List D)) : Prop := ∀ w H as ds xs Q, Fr w H → g as = some ds → RepL T H w as xs → (∀ p vs, H p = none → RepL T H w ds vs → Q (.ref p) (upd H p (.lst vs))) → rr xs H Q
def wset (w : Own) (p : Addr) (t : Option Tag) : Own := fun a => if a = p then t else w a
theorem wset_same {w : Own} {p : Addr} {t : Option Tag} : wset w p t p = t := if_pos rfl
theorem wset_ne {w : Own} {p a : Addr} {t : Option Tag} (h : a ≠ p) : wset w p t a = w a := if_neg h
/-- a new object is laid and tagged -/
theorem evo_new {w : Own} {H : Hp} {p : Addr} {o : HO} {t : Option Tag} (hp : H p = none) : ∀ a u, H a = some u → upd H p o a = some u ∧ wset w p t a = w a := fun a u e => by
  have ne : a ≠ p := ne_of_none e hp
  exact ⟨by rw [upd_ne ne]; exact e, wset_ne ne⟩
theorem SR.new {r r' : Nat} {w : Own} {σ : L2.St} {H : Hp} {ρ : Env} {p : Addr} {o : HO} {t : Tag} (s : SR T r w σ H ρ) (hp : H p = none) (hr : r ≤ r') (ht : ∀ k π, t = (.tmp k, π) → k < r') : SR T r' (wset w p (some t)) σ (upd H p o) ρ :=
  s.stay (evo_new hp) (fun a k π e => by
    by_cases h : a = p
    · subst h; rw [wset_same] at e; exact ht k π (Option.some.inj e)
    · rw [wset_ne h] at e; exact Nat.lt_of_lt_of_le (s.tm a k π e) hr) fun a t' e => by
    by_cases h : a = p
    · subst h; rw [upd_same]; exact fun z => by cases z
    · rw [wset_ne h] at e; rw [upd_ne h]; exact s.dm a t' e
theorem Evo.new {w : Own} {H : Hp} {p : Addr} {o : HO} {t : Option Tag} (hp : H p = none) : Evo w H (wset w p t) (upd H p o) := fun a u _ e => evo_new hp a u e
theorem ownsL_vals {w : Own} {H : Hp} {t : Tag} : ∀ {ds : List D} {vs : List V} {j : Nat}, OwnsL T H w (ds.map .val) vs t j ↔ RepL T H w ds vs
  | [], vs, j => by simp only [List.map_nil, OwnsL, RepL]
  | d :: ds, vs, j => by
    simp only [List.map_cons, OwnsL, RepL, Owns]
    exact ⟨fun ⟨v, ws, e, r, h⟩ => ⟨v, ws, e, r, (ownsL_vals (j := j + 1)).mp h⟩, fun ⟨v, ws, e, r, h⟩ => ⟨v, ws, e, r, (ownsL_vals (j := j + 1)).mpr h⟩⟩
theorem Owns.node {w : Own} {H : Hp} {v : V} {t : Tag} {k : Kd} {os : List O} : Owns T H w (.nd k os) v t ↔ ∃ a vs dx, v = .ref a ∧ w a = some t ∧ H a = some (k.ho T dx vs) ∧ k.fit T vs.length ∧ k ≠ .tup ∧ OwnsL T H w os vs t 0 := by simp only [Owns]
theorem Owns.newL {w : Own} {H : Hp} {p : Addr} {t : Tag} {ds : List D} {vs : List V} (h : RepL T H w ds vs) (hp : H p = none) : Owns T (upd H p (.lst vs)) (wset w p (some t)) (nl ds) (.ref p) t :=
  Owns.node.mpr ⟨p, vs, 0, rfl, wset_same, upd_same, trivial, (fun e => by cases e), ownsL_vals.mpr (h.evo (.new hp))⟩
theorem Post.newL {w : Own} {H : Hp} {σ : L2.St} {r : Nat} {ρ : Env} {ds : List D} {Q : VK} (s : SR T r w σ H ρ) (h : Post T W w H σ (r + 1) (fun H w o v => Owns T H w o v (.tmp r, [])) (mret (nl ds) ρ) Q) :
    ∀ p vs, H p = none → RepL T H w ds vs → Q (.ref p) (upd H p (.lst vs)) := fun p vs hp rep =>
  h _ _ _ (s.new hp (Nat.le_succ r) fun k π e => by cases e; exact Nat.lt_succ_self r) (.newL rep hp) (.new hp)
/-! ### the frozen and the owned -/
theorem sE_mono {e : Expr} {σ : L2.St} {H : Hp} {Q Q' : VK} (h : sE X e σ H Q) (k : ∀ v H', Q v H' → Q' v H') : sE X e σ H Q' := by
  unfold sE at h ⊢
  exact fun pins s I => thn (h pins s I) fun u s' ⟨v, H', I', rv, q⟩ => ⟨v, H', I', rv, k _ _ q⟩
/-- the temporary r is frozen -/
def frz (r : Nat) (w : Own) : Own := fun a => match w a with
  | some (.tmp k, π) => if k = r then none else some (.tmp k, π)
  | t => t
theorem frz_none {r : Nat} {w : Own} {a : Addr} (h : w a = none) : frz r w a = none := by unfold frz; rw [h]
theorem frz_tmp {r : Nat} {w : Own} {a : Addr} {π : List Nat} (h : w a = some (.tmp r, π)) : frz r w a = none := by unfold frz; rw [h]; exact if_pos rfl
theorem frz_ne {r k : Nat} {w : Own} {a : Addr} {π : List Nat} (h : w a = some (.tmp k, π)) (hk : k ≠ r) : frz r w a = some (.tmp k, π) := by unfold frz; rw [h]; exact if_neg hk
theorem frz_slot {r i : Nat} {w : Own} {a : Addr} {π : List Nat} (h : w a = some (.slot i, π)) : frz r w a = some (.slot i, π) := by unfold frz; rw [h]
theorem frz_some {r : Nat} {w : Own} {a : Addr} {t : Tag} (h : frz r w a = some t) : w a = some t ∧ ∀ π, t ≠ (.tmp r, π) := by
  cases q : w a with
  | none => rw [frz_none q] at h; cases h
  | some t' =>
    obtain ⟨rt, π⟩ := t'
    cases rt with
    | slot i => rw [frz_slot q] at h; cases h; exact ⟨rfl, fun π e => by cases e⟩
    | tmp k =>
      by_cases e : k = r
      · subst e; rw [frz_tmp q] at h; cases h
      · rw [frz_ne q e] at h; cases h; exact ⟨rfl, fun π z => by cases z; exact e rfl⟩
theorem SR.frz {r : Nat} {w : Own} {σ : L2.St} {H : Hp} {ρ : Env} (s : SR T (r + 1) w σ H ρ) : SR T r (frz r w) σ H ρ where
  ln := s.ln
  sl := fun i o e => by
    obtain ⟨v, e1, ow⟩ := s.sl i o e
    exact ⟨v, e1, Owns.frame (fun a u hw hu => ⟨hu, frz_none hw⟩) o v _ _ (fun a u π hw hu => ⟨hu, frz_slot hw⟩) ow⟩
  tm := fun a k π e => by
    obtain ⟨e1, e2⟩ := frz_some e
    have := s.tm a k π e1
    have : k ≠ r := fun z => e2 π (by rw [z])
    omega
  dm := fun a t e => s.dm a t (frz_some e).1
  fx := s.fx
  pp := T.pc _ _ _ _ (fun a u hw hu => ⟨hu, frz_none hw⟩) s.pp
theorem Owns.frz {r : Nat} {w : Own} {H : Hp} {o : O} {v : V} (h : Owns T H w o v (.tmp r, [])) : Rep T H (frz r w) o.fz v :=
  Owns.thaw (fun a u hw hu => ⟨hu, frz_none hw⟩) o v _ (fun a u π hw hu => ⟨hu, frz_tmp hw⟩) h
theorem Evo.frz {r : Nat} {w w' : Own} {H H' : Hp} (tm : ∀ a k π, w a = some (.tmp k, π) → k < r) (e : Evo w H w' H') : Evo w H (frz r w') H' := fun a u hc hu => by
  obtain ⟨e1, e2⟩ := e a u hc hu
  refine ⟨e1, ?_⟩
  rcases hc with hc | ⟨k, π, hc⟩
  · rw [hc] at e2 ⊢; exact frz_none e2
  · rw [hc] at e2 ⊢; exact frz_ne e2 (Nat.ne_of_lt (tm a k π hc))
/-- an owned value is taken for good -/
theorem ev_fz {e : Expr} {f : M O} (h : EO T X W e f) : EV T X W e (mfz f) := by
  intro r w σ H ρ Q s p
  refine h r w σ H ρ Q s ?_
  unfold mfz mbind at p
  cases ef : f ρ with
  | ok q =>
    obtain ⟨o, ρ'⟩ := q
    rw [ef] at p
    intro v H' w' s' ow ev
    exact p v H' (frz r w') s'.frz ow.frz (ev.frz s.tm)
  | er c ds ρ' => rw [ef] at p; exact p
  | stuck => rw [ef] at p; exact p
def mval (f : M D) : M O := mbind f fun d => mret (.val d)
theorem eo_val {e : Expr} {f : M D} (h : EV T X W e f) : EO T X W e (mval f) := by
  intro r w σ H ρ Q s p
  refine h r w σ H ρ Q s ?_
  unfold mval mbind at p
  cases ef : f ρ with
  | ok q =>
    obtain ⟨d, ρ'⟩ := q
    rw [ef] at p
    intro v H' w' s' ow ev
    exact p v H' w' (s'.stay (fun _ _ h => ⟨h, rfl⟩) (fun a k π e => Nat.lt_succ_of_lt (s'.tm a k π e)) s'.dm) (Owns.val.mpr ow) ev
  | er c ds ρ' => rw [ef] at p; exact p
  | stuck => rw [ef] at p; exact p
/-! ### names, constants -/
def rd (i : Nat) : M D := fun ρ => match ρ[i]? with
  | some (some (.val d)) => .ok (d, ρ)
  | _ => .stuck
theorem ev_var {i : Nat} {x : Str} {pos : Pos} (hN : X.N[i]? = some x := by rfl) (hv : Vis X.env.scope x := by first | exact Or.inl rfl | exact Or.inr (Or.inl rfl) | exact Or.inr (Or.inr rfl))
    (hd : (x == ("__debug__" : Str)) = false := by decide) (hcd : (x == ("__classdict__" : Str)) = false := by decide) : EV T X W (.Name x pos) (rd i) := by
  intro r w σ H ρ Q s p
  unfold rd at p
  split at p
  · rename_i d e
    obtain ⟨v, e1, ow⟩ := s.sl i _ e
    exact sE_of (pe_var hN hv hd hcd) ⟨v, e1, p.ret s (Owns.val.mp ow)⟩
  · exact p.elim
theorem ev_int {i j pos} : EV T X W (.Constant (.int i) j pos) (mret (.int i)) := fun _ _ _ _ _ _ s p => sE_of pe_int (p.ret s (Rep.int_.mpr rfl))
theorem ev_bl {b j pos} : EV T X W (.Constant (.bool b) j pos) (mret (.bl b)) := fun _ _ _ _ _ _ s p => sE_of pe_bl (p.ret s (Rep.bl_.mpr rfl))
theorem ev_non {j pos} : EV T X W (.Constant .none j pos) (mret .non) := fun _ _ _ _ _ _ s p => sE_of pe_non (p.ret s (Rep.non_.mpr rfl))
theorem ev_str {x j pos} : EV T X W (.Constant (.str x) j pos) (mret (.str x)) := fun _ _ _ _ _ _ s p => sE_of pe_str (p.ret s (Rep.str_.mpr rfl))
/-- a module's int -/
theorem ev_globI {x : Str} {i : Int} {t : Tok} {pos : Pos} (hg : Gl X x) (hm : X.mg x = some (.int i t)) (hd : (x == ("__debug__" : Str)) = false := by decide) : EV T X W (.Name x pos) (mret (.int i)) :=
  fun _ _ _ _ _ _ s p => sE_of (pe_glob (v := .int i) hg hm ⟨t, rfl⟩ hd) (p.ret s (Rep.int_.mpr rfl))
/-! ### operators -/
variable {a b : Expr} {fa fb : M D} {pos : Pos}
theorem ev_bin {op : Operator} {rr : R2} {g : D → D → Option D} (ho : OpR X (binaryOp op) rr) (hd : R2D T rr g) (ha : EV T X W a fa) (hb : EV T X W b fb) : EV T X W (.BinOp a op b pos) (m2 g fa fb) := by
  intro r w σ H ρ Q s p
  refine sE_of (pe_op ho pe_s pe_s) ?_
  refine ha r w σ H ρ _ s (p.bind fun a ρ1 x H1 w1 s1 q1 e1 p1 => ?_)
  refine hb r w1 σ H1 ρ1 _ s1 (p1.bind fun b ρ2 y H2 w2 s2 q2 e2 p2 => ?_)
  obtain ⟨d, eg, p3⟩ := p2.lift1
  exact hd w2 H2 a b d x y Q s2.fr eg (q1.evo e2) q2 fun v H' k rep => p3.new s2 k rep
theorem eo_bin {op : Operator} {rr : R2} {g : D → D → Option (List D)} (ho : OpR X (binaryOp op) rr) (hd : R2L T rr g) (ha : EV T X W a fa) (hb : EV T X W b fb) : EO T X W (.BinOp a op b pos) (o2 g fa fb) := by
  intro r w σ H ρ Q s p
  refine sE_of (pe_op ho pe_s pe_s) ?_
  refine ha r w σ H ρ _ s (p.bind fun a ρ1 x H1 w1 s1 q1 e1 p1 => ?_)
  refine hb r w1 σ H1 ρ1 _ s1 (p1.bind fun b ρ2 y H2 w2 s2 q2 e2 p2 => ?_)
  obtain ⟨ds, eg, p3⟩ := p2.lift
  exact hd w2 H2 a b ds x y Q s2.fr eg (q1.evo e2) q2 (p3.newL s2)
theorem ev_un {op : UnaryOp} {rr : V → Hp → VK → Prop} {g : D → Option D} (ho : UnR X (unaryOp op) rr) (hd : R1D T rr g) (ha : EV T X W a fa) : EV T X W (.UnaryOp op a pos) (m1 g fa) := by
  intro r w σ H ρ Q s p
  refine sE_of (pe_un ho pe_s) ?_
  refine ha r w σ H ρ _ s (p.bind fun a ρ1 x H1 w1 s1 q1 e1 p1 => ?_)
  obtain ⟨d, eg, p3⟩ := p1.lift1
  exact hd w1 H1 a d x Q s1.fr eg q1 fun v H' k rep => p3.new s1 k rep
theorem ev_cmp {op : CmpOp} {rr : R2} {g : D → D → Option D} (ho : OpR X (compareOp op) rr) (hd : R2D T rr g) (ha : EV T X W a fa) (hb : EV T X W b fb) (hm : behindInMarks op b = false) : EV T X W (.Compare a [op] [b] pos) (m2 g fa fb) := by
  intro r w σ H ρ Q s p
  refine sE_of (pe_cmpR ho pe_s pe_s hm) ?_
  refine ha r w σ H ρ _ s (p.bind fun a ρ1 x H1 w1 s1 q1 e1 p1 => ?_)
  refine hb r w1 σ H1 ρ1 _ s1 (p1.bind fun b ρ2 y H2 w2 s2 q2 e2 p2 => ?_)
  obtain ⟨d, eg, p3⟩ := p2.lift1
  exact hd w2 H2 a b d x y Q s2.fr eg (q1.evo e2) q2 fun v H' k rep => p3.new s2 k rep
theorem ev_ix {rr : R2} {g : D → D → Option D} (ho : IxR X rr) (hd : R2D T rr g) (ha : EV T X W a fa) (hb : EV T X W b fb) (hs : PlainIx b) : EV T X W (.Subscript a b pos) (m2 g fa fb) := by
  intro r w σ H ρ Q s p
  refine sE_of (pe_ix ho pe_s pe_s hs) ?_
  refine ha r w σ H ρ _ s (p.bind fun a ρ1 x H1 w1 s1 q1 e1 p1 => ?_)
  refine hb r w1 σ H1 ρ1 _ s1 (p1.bind fun b ρ2 y H2 w2 s2 q2 e2 p2 => ?_)
  obtain ⟨d, eg, p3⟩ := p2.lift1
  exact hd w2 H2 a b d x y Q s2.fr eg (q1.evo e2) q2 fun v H' k rep => p3.new s2 k rep
/-! ### arguments -/
def mcons (f : M D) (g : M (List D)) : M (List D) := mbind f fun d => mbind g fun ds => mret (d :: ds)
theorem av_nil : AV T X W [] (mret []) := ⟨fun ρ ds ρ' e => by cases e; rfl, fun _ _ _ _ _ _ s p => sA_of pa_nil (p.ret s .nil)⟩
theorem av_cons {es : List Expr} {fs : M (List D)} (ha : EV T X W a fa) (hr : AV T X W es fs) (hs : starEach (a :: es) X.env = (false, eval a X.env) :: starEach es X.env := by rfl) : AV T X W (a :: es) (mcons fa fs) := by
  refine ⟨fun ρ ds ρ' e => ?_, ?_⟩
  · unfold mcons mbind at e
    cases ef : fa ρ with
    | ok q =>
      rw [ef] at e
      dsimp only at e
      cases eg : fs q.2 with
      | ok q2 =>
        rw [eg] at e
        cases e
        rw [List.length_cons, List.length_cons, hr.len _ _ _ eg]
      | er c ds ρ1 => rw [eg] at e; cases e
      | stuck => rw [eg] at e; cases e
    | er c ds ρ1 => rw [ef] at e; cases e
    | stuck => rw [ef] at e; cases e
  intro r w σ H ρ Q s p
  refine sA_of (pa_cons pe_s pa_s hs) ?_
  refine ha r w σ H ρ _ s (p.bind fun a ρ1 x H1 w1 s1 q1 e1 p1 => ?_)
  refine hr.run r w1 σ H1 ρ1 _ s1 (p1.bind fun b ρ2 y H2 w2 s2 q2 e2 p2 => ?_)
  exact p2.ret s2 (.cons (q1.evo e2) q2)
variable {es : List Expr} {fs : M (List D)}
def tupD (ds : List D) : Option D := if ds.length ≤ sizeLine then some (.nd .tup ds) else none
def lstD (ds : List D) : Option (List D) := if ds.length ≤ sizeLine then some ds else none
theorem ev_tup {n : Nat} (h : AV T X W es fs) : EV T X W (.Tuple es n pos) (mL tupD fs) := by
  intro r w σ H ρ Q s p
  refine sE_of (pe_tup pa_s) ?_
  refine h.run r w σ H ρ _ s (p.bind fun ds ρ1 vs H1 w1 s1 q1 e1 p1 => ?_)
  obtain ⟨d, eg, p3⟩ := p1.lift1
  unfold tupD at eg
  split at eg
  · rename_i hz
    cases eg
    exact ⟨by rw [← q1.length]; exact hz, fun q hq => p3.new s1 (same_upd hq) (.newT q1 hq (s1.fresh hq))⟩
  · cases eg
theorem eo_lst (h : AV T X W es fs) : EO T X W (.List es pos) (oL lstD fs) := by
  intro r w σ H ρ Q s p
  refine sE_of (pe_lst pa_s) ?_
  refine h.run r w σ H ρ _ s (p.bind fun ds ρ1 vs H1 w1 s1 q1 e1 p1 => ?_)
  obtain ⟨d, eg, p3⟩ := p1.lift
  unfold lstD at eg
  split at eg
  · rename_i hz
    cases eg
    exact ⟨by rw [← q1.length]; exact hz, fun q hq => p3.newL s1 q vs hq q1⟩
  · cases eg
/-- a built-in called by its name -/
theorem ev_callB {id : String} {x : Str} {q : Pos} {rr : List V → Hp → VK → Prop} {g : List D → Option D} (hc : CallR X (.builtin id) rr) (hd : RLD T rr g) (hg : Gl X x) (hm : X.mg x = none) (hv : bootBuiltins x = some (.builtin id)) (ha : AV T X W (a :: es) fs)
    (hn : x ≠ "__name__" := by decide) (hdb : (x == ("__debug__" : Str)) = false := by decide) (he : starEach (a :: es) X.env = (false, eval a X.env) :: starEach es X.env := by rfl) (hpl : (backTo pos (starEach es X.env)).any (·.1) = false := by rfl) :
    EV T X W (.Call (.Name x q) (a :: es) [] pos) (mL g fs) := by
  intro r w σ H ρ Q s p
  refine sE_of (pe_callB hc hg hm hv pa_s hn hdb he hpl) ?_
  refine ha.run r w σ H ρ _ s (p.bind fun ds ρ1 vs H1 w1 s1 q1 e1 p1 => ?_)
  obtain ⟨d, eg, p3⟩ := p1.lift1
  exact hd w1 H1 ds d vs Q s1.fr eg q1 fun v H' k rep => p3.new s1 k rep
theorem ev_callTy {id : String} {x : Str} {q : Pos} {rr : List V → Hp → VK → Prop} {g : List D → Option D} (hc : CallR X (.type id) rr) (hd : RLD T rr g) (hg : Gl X x) (hm : X.mg x = none) (hv : bootBuiltins x = some (.type id)) (ha : AV T X W (a :: es) fs)
    (hn : x ≠ "__name__" := by decide) (hdb : (x == ("__debug__" : Str)) = false := by decide) (he : starEach (a :: es) X.env = (false, eval a X.env) :: starEach es X.env := by rfl) (hpl : (backTo pos (starEach es X.env)).any (·.1) = false := by rfl) :
    EV T X W (.Call (.Name x q) (a :: es) [] pos) (mL g fs) := by
  intro r w σ H ρ Q s p
  refine sE_of (pe_callTy hc hg hm hv pa_s hn hdb he hpl) ?_
  refine ha.run r w σ H ρ _ s (p.bind fun ds ρ1 vs H1 w1 s1 q1 e1 p1 => ?_)
  obtain ⟨d, eg, p3⟩ := p1.lift1
  exact hd w1 H1 ds d vs Q s1.fr eg q1 fun v H' k rep => p3.new s1 k rep
theorem eo_callB {id : String} {x : Str} {q : Pos} {rr : List V → Hp → VK → Prop} {g : List D → Option (List D)} (hc : CallR X (.builtin id) rr) (hd : RLL T rr g) (hg : Gl X x) (hm : X.mg x = none) (hv : bootBuiltins x = some (.builtin id)) (ha : AV T X W (a :: es) fs)
    (hn : x ≠ "__name__" := by decide) (hdb : (x == ("__debug__" : Str)) = false := by decide) (he : starEach (a :: es) X.env = (false, eval a X.env) :: starEach es X.env := by rfl) (hpl : (backTo pos (starEach es X.env)).any (·.1) = false := by rfl) :
    EO T X W (.Call (.Name x q) (a :: es) [] pos) (oL g fs) := by
  intro r w σ H ρ Q s p
  refine sE_of (pe_callB hc hg hm hv pa_s hn hdb he hpl) ?_
  refine ha.run r w σ H ρ _ s (p.bind fun ds ρ1 vs H1 w1 s1 q1 e1 p1 => ?_)
  obtain ⟨d, eg, p3⟩ := p1.lift
  exact hd w1 H1 ds d vs Q s1.fr eg q1 (p3.newL s1)
theorem eo_callTy {id : String} {x : Str} {q : Pos} {rr : List V → Hp → VK → Prop} {g : List D → Option (List D)} (hc : CallR X (.type id) rr) (hd : RLL T rr g) (hg : Gl X x) (hm : X.mg x = none) (hv : bootBuiltins x = some (.type id)) (ha : AV T X W (a :: es) fs)
    (hn : x ≠ "__name__" := by decide) (hdb : (x == ("__debug__" : Str)) = false := by decide) (he : starEach (a :: es) X.env = (false, eval a X.env) :: starEach es X.env := by rfl) (hpl : (backTo pos (starEach es X.env)).any (·.1) = false := by rfl) :
    EO T X W (.Call (.Name x q) (a :: es) [] pos) (oL g fs) := by
  intro r w σ H ρ Q s p
  refine sE_of (pe_callTy hc hg hm hv pa_s hn hdb he hpl) ?_
  refine ha.run r w σ H ρ _ s (p.bind fun ds ρ1 vs H1 w1 s1 q1 e1 p1 => ?_)
  obtain ⟨d, eg, p3⟩ := p1.lift
  exact hd w1 H1 ds d vs Q s1.fr eg q1 (p3.newL s1)
end
end Y
set_option Elab.async false
set_option maxRecDepth 100000
set_option linter.all false
/-! The value layer: operators and built-ins on values. -/
namespace Y
open PySem L2
open PySem.Spec PyProof.Rows
/-! ### plain data -/
mutual
def D.py : D → Option PyData
  | .non => some .none
  | .bl b => some (.bool b)
  | .int i => some (.int i)
  | .str x => some (.str x)
  | .nd k ds => match k with
    | .tup => (pyL ds).map .tuple
    | .lst => (pyL ds).map .list
    | .scr => (pyL ds).map .list
    | _ => none
def pyL : List D → Option (List PyData)
  | [] => some []
  | d :: ds => match D.py d, pyL ds with
    | some p, some ps => some (p :: ps)
    | _, _ => none
end
section
variable {T : Tb} {H : Hp} {w : Own}
mutual
theorem Rep.dp : ∀ (d : D) (v : V) (p : PyData), Rep T H w d v → d.py = some p → Dp T.K H v p
  | .non, v, p, h, e => by simp only [Rep] at h; simp only [D.py, Option.some.injEq] at e; subst h; subst e; exact .non
  | .bl b, v, p, h, e => by simp only [Rep] at h; simp only [D.py, Option.some.injEq] at e; subst h; subst e; exact .bl b
  | .int b, v, p, h, e => by simp only [Rep] at h; simp only [D.py, Option.some.injEq] at e; subst h; subst e; exact .int b
  | .str b, v, p, h, e => by simp only [Rep] at h; simp only [D.py, Option.some.injEq] at e; subst h; subst e; exact .str b
  | .nd k ds, v, p, h, e => by
    simp only [Rep] at h
    obtain ⟨a, vs, rfl, ha, hl⟩ := h
    cases k with
    | tup =>
      simp only [D.py, Option.map_eq_some_iff] at e
      obtain ⟨ps, e, rfl⟩ := e
      exact .tup ha.tup (RepL.dp ds vs ps hl e)
    | lst =>
      simp only [D.py, Option.map_eq_some_iff] at e
      obtain ⟨ps, e, rfl⟩ := e
      exact .lst ha.sql (RepL.dp ds vs ps hl e)
    | scr =>
      simp only [D.py, Option.map_eq_some_iff] at e
      obtain ⟨ps, e, rfl⟩ := e
      exact .lst ha.scr (RepL.dp ds vs ps hl e)
    | dK ks => simp [D.py] at e
    | dT ks => simp [D.py] at e
    | obj c => simp [D.py] at e
theorem RepL.dp : ∀ (ds : List D) (vs : List V) (ps : List PyData), RepL T H w ds vs → pyL ds = some ps → DpAll T.K H vs ps
  | [], vs, ps, h, e => by simp only [RepL] at h; simp only [pyL, Option.some.injEq] at e; subst h; subst e; exact .nil
  | d :: ds, vs, ps, h, e => by
    simp only [RepL] at h
    obtain ⟨v, ws, rfl, r, hl⟩ := h
    simp only [pyL] at e
    split at e
    · rename_i p ps' e1 e2
      cases e
      exact .cons (Rep.dp d v p r e1) (RepL.dp ds ws ps' hl e2)
    · cases e
end
/-- its truth -/
def truD : D → Option Bool
  | .non => some false
  | .bl b => some b
  | .int i => some (i != 0)
  | .str x => if x.length ≤ sizeLine then some ((x.length : Int) != 0) else none
  | .nd k ds => match k with
    | .tup => some !ds.isEmpty
    | .lst => some !ds.isEmpty
    | .scr => some !ds.isEmpty
    | _ => none
theorem isEmpty_len {α β : Type} {xs : List α} {ys : List β} (h : xs.length = ys.length) : xs.isEmpty = ys.isEmpty := by
  cases xs <;> cases ys <;> simp_all
theorem Rep.tru {d : D} {v : V} {b : Bool} (h : Rep T H w d v) (e : truD d = some b) : TruV T.K v H b := by
  cases d with
  | non => rw [Rep.non_] at h; subst h; cases e; rfl
  | bl b => rw [Rep.bl_] at h; subst h; cases e; rfl
  | int b => rw [Rep.int_] at h; subst h; cases e; rfl
  | str b =>
    rw [Rep.str_] at h; subst h
    simp only [truD] at e
    split at e
    · rename_i hz; cases e; exact ⟨hz, rfl⟩
    · cases e
  | nd k ds =>
    obtain ⟨a, vs, rfl, ha, hl⟩ := Rep.node.mp h
    have hl := isEmpty_len hl.length
    cases k with
    | tup => cases e; exact .inr (.inl ⟨vs, ha.tup, by rw [hl]⟩)
    | lst => cases e; exact .inl ⟨vs, ha.sql, by rw [hl]⟩
    | scr => cases e; exact .inl ⟨vs, ha.scr, by rw [hl]⟩
    | dK ks => simp [truD] at e
    | dT ks => simp [truD] at e
    | obj c => simp [truD] at e
/-- a list or a tuple: its parts -/
def D.seq : D → Option (List D)
  | .nd k ds => match k with
    | .tup => some ds
    | .lst => some ds
    | .scr => some ds
    | _ => none
  | _ => none
theorem Rep.seq {d : D} {v : V} {ds : List D} (h : Rep T H w d v) (e : d.seq = some ds) : ∃ a vs, v = .ref a ∧ (SqL T.K H a vs ∨ SqT T.K H a vs) ∧ RepL T H w ds vs := by
  cases d with
  | nd k es =>
    obtain ⟨a, vs, rfl, ha, hl⟩ := Rep.node.mp h
    cases k with
    | tup => cases e; exact ⟨a, vs, rfl, .inr ha.tup, hl⟩
    | lst => cases e; exact ⟨a, vs, rfl, .inl ha.sql, hl⟩
    | scr => cases e; exact ⟨a, vs, rfl, .inl ha.scr, hl⟩
    | dK ks => simp [D.seq] at e
    | dT ks => simp [D.seq] at e
    | obj c => simp [D.seq] at e
  | _ => simp [D.seq] at e
/-- a list: its parts -/
def D.lsq : D → Option (List D)
  | .nd k ds => match k with
    | .lst => some ds
    | .scr => some ds
    | _ => none
  | _ => none
theorem Rep.lsq {d : D} {v : V} {ds : List D} (h : Rep T H w d v) (e : d.lsq = some ds) : ∃ a vs, v = .ref a ∧ SqL T.K H a vs ∧ RepL T H w ds vs := by
  cases d with
  | nd k es =>
    obtain ⟨a, vs, rfl, ha, hl⟩ := Rep.node.mp h
    cases k with
    | lst => cases e; exact ⟨a, vs, rfl, ha.sql, hl⟩
    | scr => cases e; exact ⟨a, vs, rfl, ha.scr, hl⟩
    | tup => simp [D.lsq] at e
    | dK ks => simp [D.lsq] at e
    | dT ks => simp [D.lsq] at e
    | obj c => simp [D.lsq] at e
  | _ => simp [D.lsq] at e
/-! ### arithmetic -/
def rAddA (K : PySem.W.Frag) : R2 := fun x y H Q => (∃ i j, x = .int i ∧ y = .int j ∧ Q (.int (i + j)) H) ∨ (∃ i j, x = .str i ∧ y = .str j ∧ i.length + j.length ≤ sizeLine ∧ Q (.str (i ++ j)) H) ∨ rCatA K x y H Q
theorem op_addA {X : Cx} : OpR X (binaryOp .Add) (rAddA X.K) := op_add.or (op_add_str.or op_catA)
def addD : D → D → Option D
  | .int a, .int b => some (.int (a + b))
  | .str a, .str b => if a.length + b.length ≤ sizeLine then some (.str (a ++ b)) else none
  | .nd .tup xs, .nd .tup ys => if xs.length + ys.length ≤ sizeLine then some (.nd .tup (xs ++ ys)) else none
  | _, _ => none
theorem addD_ok : R2D T (rAddA T.K) addD := by
  intro w H a b d x y Q fr e ha hb k
  unfold addD at e
  split at e
  · cases e; rw [Rep.int_] at ha hb; subst ha; subst hb
    exact .inl ⟨_, _, rfl, rfl, k _ H (.refl H) (Rep.int_.mpr rfl)⟩
  · rw [Rep.str_] at ha hb; subst ha; subst hb
    split at e
    · rename_i hz; cases e
      exact .inr (.inl ⟨_, _, rfl, rfl, hz, k _ H (.refl H) (Rep.str_.mpr rfl)⟩)
    · cases e
  · rename_i xs ys
    split at e
    · rename_i hz; cases e
      obtain ⟨p, vs, rfl, ap, hv⟩ := Rep.node.mp ha
      obtain ⟨q, us, rfl, aq, hu⟩ := Rep.node.mp hb
      refine .inr (.inr ⟨p, q, vs, us, rfl, rfl, ap.tup, aq.tup, by rw [← hv.length, ← hu.length]; exact hz, fun e => ?_, fun _ e => ?_, fun _ _ r hr => ?_⟩)
      · subst e
        have : xs = [] := by cases xs with
          | nil => rfl
          | cons _ _ => simp [RepL] at hv
        subst this
        exact k _ H (.refl H) hb
      · subst e
        have : ys = [] := by cases ys with
          | nil => rfl
          | cons _ _ => simp [RepL] at hu
        subst this
        rw [List.append_nil] at k
        exact k _ H (.refl H) ha
      · exact k _ _ (same_upd hr) (.newT (hv.append hu) hr (fr r hr))
    · cases e
  · cases e
/-- lists, one behind another -/
def catD : D → D → Option (List D)
  | .nd .lst xs, .nd .lst ys => if xs.length + ys.length ≤ sizeLine then some (xs ++ ys) else none
  | _, _ => none
theorem catD_ok : R2L T rCat catD := by
  intro w H a b d x y Q fr e ha hb k
  unfold catD at e
  split at e
  · split at e
    · rename_i hz; cases e
      obtain ⟨p, vs, rfl, ap, hv⟩ := Rep.node.mp ha
      obtain ⟨q, us, rfl, aq, hu⟩ := Rep.node.mp hb
      exact ⟨p, q, vs, us, rfl, rfl, ap.lst, aq.lst, by rw [← hv.length, ← hu.length]; exact hz, fun r hr => k r _ hr (hv.append hu)⟩
    · cases e
  · cases e
def subD : D → D → Option D
  | .int a, .int b => some (.int (a - b))
  | _, _ => none
theorem subD_ok : R2D T (rI0 fun i j => .int (i - j)) subD := by
  intro w H a b d x y Q fr e ha hb k
  unfold subD at e
  split at e
  · cases e; rw [Rep.int_] at ha hb; subst ha; subst hb
    exact ⟨_, _, rfl, rfl, k _ H (.refl H) (Rep.int_.mpr rfl)⟩
  · cases e
def mulOk (i j : Int) : Bool := decide (i.natAbs < 18446744073709551616) || decide (j.natAbs < 18446744073709551616) || decide (i.natAbs.log2 + j.natAbs.log2 < 1000000)
def rMulA : R2 := fun x y H Q => rI CMul (fun i j => .int (i * j)) x y H Q ∨ rI CMulW (fun i j => .int (i * j)) x y H Q
theorem op_mulA {X : Cx} : OpR X (binaryOp .Mult) rMulA := op_mul.or op_mulW
def mulD : D → D → Option D
  | .int a, .int b => if mulOk a b = true then some (.int (a * b)) else none
  | _, _ => none
theorem mulD_ok : R2D T rMulA mulD := by
  intro w H a b d x y Q fr e ha hb k
  unfold mulD at e
  split at e
  · rw [Rep.int_] at ha hb; subst ha; subst hb
    split at e
    · rename_i i j hz; cases e
      have q := k _ H (.refl H) (Rep.int_.mpr rfl)
      simp only [mulOk, Bool.or_eq_true, decide_eq_true_eq] at hz
      rcases hz with (hz | hz) | hz
      · exact .inl ⟨_, _, rfl, rfl, .inl ⟨by omega, by omega⟩, q⟩
      · exact .inl ⟨_, _, rfl, rfl, .inr ⟨by omega, by omega⟩, q⟩
      · exact .inr ⟨_, _, rfl, rfl, hz, q⟩
    · cases e
  · cases e
def repD : D → D → Option (List D)
  | .nd .lst xs, .int k => if k.natAbs < 9223372036854775808 ∧ xs.length * k.toNat ≤ sizeLine then some (List.replicate k.toNat xs).flatten else none
  | _, _ => none
theorem RepL.rep {ds : List D} {vs : List V} (h : RepL T H w ds vs) : ∀ n : Nat, RepL T H w (List.replicate n ds).flatten (List.replicate n vs).flatten
  | 0 => .nil
  | n + 1 => by
    rw [List.replicate_succ, List.replicate_succ, List.flatten_cons, List.flatten_cons]
    exact h.append (h.rep n)
theorem repD_ok : R2L T rRep repD := by
  intro w H a b d x y Q fr e ha hb k
  unfold repD at e
  split at e
  · split at e
    · rename_i hz; cases e
      obtain ⟨p, vs, rfl, ap, hv⟩ := Rep.node.mp ha
      rw [Rep.int_] at hb; subst hb
      exact ⟨p, _, vs, rfl, rfl, ap.lst, by omega, by omega, by rw [← hv.length]; exact hz.2, fun r hr => k r _ hr (hv.rep _)⟩
    · cases e
  · cases e
def divOk (j : Int) : Bool := (decide (j ≠ 0) && decide (j.natAbs < 1073741824)) || (decide (0 < j) && decide (j.natAbs.log2 < 9000))
def rDivA : R2 := fun x y H Q => rI CDivN (fun i j => .int (i.fdiv j)) x y H Q ∨ rI CDivW (fun i j => .int (i / j)) x y H Q
theorem op_divA {X : Cx} : OpR X (binaryOp .FloorDiv) rDivA := op_fdivN.or op_fdivW
def divD : D → D → Option D
  | .int a, .int b => if divOk b = true then some (.int (a.fdiv b)) else none
  | _, _ => none
theorem divD_ok : R2D T rDivA divD := by
  intro w H a b d x y Q fr e ha hb k
  unfold divD at e
  split at e
  · rw [Rep.int_] at ha hb; subst ha; subst hb
    split at e
    · rename_i i j hz; cases e
      have q := k _ H (.refl H) (Rep.int_.mpr rfl)
      simp only [divOk, Bool.or_eq_true, Bool.and_eq_true, decide_eq_true_eq] at hz
      rcases hz with hz | hz
      · exact .inl ⟨_, _, rfl, rfl, hz, q⟩
      · exact .inr ⟨_, _, rfl, rfl, hz, by show Q (.int (i / j)) H; rw [← Int.fdiv_eq_ediv_of_nonneg _ (Int.le_of_lt hz.1)]; exact q⟩
    · cases e
  · cases e
def modD : D → D → Option D
  | .int a, .int b => if b ≠ 0 then some (.int (a.fmod b)) else none
  | _, _ => none
theorem modD_ok : R2D T (rI (fun _ j => j ≠ 0) fun i j => .int (i.fmod j)) modD := by
  intro w H a b d x y Q fr e ha hb k
  unfold modD at e
  split at e
  · rw [Rep.int_] at ha hb; subst ha; subst hb
    split at e
    · rename_i i j hz; cases e
      exact ⟨_, _, rfl, rfl, hz, k _ H (.refl H) (Rep.int_.mpr rfl)⟩
    · cases e
  · cases e
def powD : D → D → Option D
  | .int a, .int b => if 0 ≤ b ∧ b ≤ 1000000 ∧ a.natAbs < 2 ^ 64 then some (.int (a ^ b.toNat)) else none
  | _, _ => none
theorem powD_ok : R2D T (rI CPow fun i j => .int (i ^ j.toNat)) powD := by
  intro w H a b d x y Q fr e ha hb k
  unfold powD at e
  split at e
  · rw [Rep.int_] at ha hb; subst ha; subst hb
    split at e
    · rename_i i j hz; cases e
      exact ⟨_, _, rfl, rfl, hz, k _ H (.refl H) (Rep.int_.mpr rfl)⟩
    · cases e
  · cases e
def negD : D → Option D
  | .int a => some (.int (-a))
  | _ => none
theorem negD_ok : R1D T (rU fun i => .int (-i)) negD := by
  intro w H a d x Q fr e ha k
  unfold negD at e
  split at e
  · cases e; rw [Rep.int_] at ha; subst ha
    exact ⟨_, rfl, k _ H (.refl H) (Rep.int_.mpr rfl)⟩
  · cases e
/-! ### comparisons -/
def eqD (a b : D) : Option Bool := match a.py, b.py with
  | some p, some q => if (SeqAt.shaped p && SeqAt.shaped q) = true then some (PyData.eqv p q) else none
  | _, _ => none
def eqDv (a b : D) : Option D := (eqD a b).map .bl
def neDv (a b : D) : Option D := (eqD a b).map fun c => .bl !c
theorem eqD_some {a b : D} {c : Bool} (e : eqD a b = some c) : ∃ p q, a.py = some p ∧ b.py = some q ∧ SeqAt.shaped p = true ∧ SeqAt.shaped q = true ∧ c = PyData.eqv p q := by
  unfold eqD at e
  split at e
  · rename_i p q e1 e2
    split at e
    · rename_i hz
      rw [Bool.and_eq_true] at hz
      exact ⟨p, q, e1, e2, hz.1, hz.2, (Option.some.inj e).symm⟩
    · cases e
  · cases e
theorem eqDv_ok : R2D T (rEqD T.K) eqDv := by
  intro w H a b d x y Q fr e ha hb k
  simp only [eqDv, Option.map_eq_some_iff] at e
  obtain ⟨c, e, rfl⟩ := e
  obtain ⟨p, q, e1, e2, s1, s2, rfl⟩ := eqD_some e
  exact ⟨p, q, Rep.dp _ _ _ ha e1, Rep.dp _ _ _ hb e2, s1, s2, k _ H (.refl H) (Rep.bl_.mpr rfl)⟩
theorem neDv_ok : R2D T (rNeD T.K) neDv := by
  intro w H a b d x y Q fr e ha hb k
  simp only [neDv, Option.map_eq_some_iff] at e
  obtain ⟨c, e, rfl⟩ := e
  obtain ⟨p, q, e1, e2, s1, s2, rfl⟩ := eqD_some e
  exact ⟨p, q, Rep.dp _ _ _ ha e1, Rep.dp _ _ _ hb e2, s1, s2, k _ H (.refl H) (Rep.bl_.mpr rfl)⟩
def cmpI (p : Int → Int → Bool) : D → D → Option D
  | .int a, .int b => some (.bl (p a b))
  | _, _ => none
theorem cmpI_ok {p : Int → Int → Bool} : R2D T (rI0 fun i j => .bl (p i j)) (cmpI p) := by
  intro w H a b d x y Q fr e ha hb k
  unfold cmpI at e
  split at e
  · cases e; rw [Rep.int_] at ha hb; subst ha; subst hb
    exact ⟨_, _, rfl, rfl, k _ H (.refl H) (Rep.bl_.mpr rfl)⟩
  · cases e
abbrev ltDv : D → D → Option D := cmpI fun i j => decide (i < j)
abbrev leDv : D → D → Option D := cmpI fun i j => decide (i ≤ j)
abbrev gtDv : D → D → Option D := cmpI fun i j => decide (j < i)
abbrev geDv : D → D → Option D := cmpI fun i j => decide (j ≤ i)
def D.isN : D → Bool
  | .non => true
  | _ => false
theorem Rep.isN {d : D} {v : V} (h : Rep T H w d v) : decide (v = .non) = d.isN := by
  cases d with
  | non => rw [Rep.non_] at h; subst h; rfl
  | bl b => rw [Rep.bl_] at h; subst h; rfl
  | int b => rw [Rep.int_] at h; subst h; rfl
  | str b => rw [Rep.str_] at h; subst h; rfl
  | nd k ds => obtain ⟨a, vs, rfl, _⟩ := Rep.node.mp h; rfl
def isD : D → D → Option D
  | a, .non => some (.bl a.isN)
  | .bl a, .bl b => some (.bl (decide (a = b)))
  | _, _ => none
def isNotD : D → D → Option D
  | a, .non => some (.bl !a.isN)
  | .bl a, .bl b => some (.bl !(decide (a = b)))
  | _, _ => none
def rIsA : R2 := fun x y H Q => (y = .non ∧ Q (.bl (decide (x = .non))) H) ∨ (∃ a b, x = .bl a ∧ y = .bl b ∧ Q (.bl (decide (a = b))) H)
def rIsNotA : R2 := fun x y H Q => (y = .non ∧ Q (.bl (!decide (x = .non))) H) ∨ (∃ a b, x = .bl a ∧ y = .bl b ∧ Q (.bl (!decide (a = b))) H)
theorem op_isA {X : Cx} : OpR X (compareOp .Is) rIsA := op_isN.or op_is_bl
theorem op_isNotA {X : Cx} : OpR X (compareOp .IsNot) rIsNotA := op_notN.or op_isnot_bl
theorem isD_ok : R2D T rIsA isD := by
  intro w H a b d x y Q fr e ha hb k
  unfold isD at e
  split at e
  · cases e; rw [Rep.non_] at hb; subst hb
    exact .inl ⟨rfl, by rw [ha.isN]; exact k _ H (.refl H) (Rep.bl_.mpr rfl)⟩
  · cases e; rw [Rep.bl_] at ha hb; subst ha; subst hb
    exact .inr ⟨_, _, rfl, rfl, k _ H (.refl H) (Rep.bl_.mpr rfl)⟩
  · cases e
theorem isNotD_ok : R2D T rIsNotA isNotD := by
  intro w H a b d x y Q fr e ha hb k
  unfold isNotD at e
  split at e
  · cases e; rw [Rep.non_] at hb; subst hb
    exact .inl ⟨rfl, by rw [ha.isN]; exact k _ H (.refl H) (Rep.bl_.mpr rfl)⟩
  · cases e; rw [Rep.bl_] at ha hb; subst ha; subst hb
    exact .inr ⟨_, _, rfl, rfl, k _ H (.refl H) (Rep.bl_.mpr rfl)⟩
  · cases e
/-! ### subscripts, slices -/
theorem RepL.atI {ds : List D} {vs : List V} {i : Int} {d : D} (h : RepL T H w ds vs) (e : L2.atI ds i = some d) : ∃ v, L2.atI vs i = some v ∧ Rep T H w d v := by
  unfold L2.atI at e ⊢
  rw [h.length] at e
  cases q : ixN vs.length i with
  | none => rw [q] at e; cases e
  | some j => rw [q] at e; exact h.get e
def ixD : D → D → Option D
  | a, .int i => a.seq.bind fun ds => L2.atI ds i
  | _, _ => none
theorem ixD_ok : R2D T (rIx T.K) ixD := by
  intro w H a b d x y Q fr e ha hb k
  unfold ixD at e
  split at e
  · rename_i i
    rw [Rep.int_] at hb; subst hb
    simp only [Option.bind_eq_some_iff] at e
    obtain ⟨ds, e1, e2⟩ := e
    obtain ⟨p, vs, rfl, hs, hl⟩ := ha.seq e1
    obtain ⟨v, e3, r⟩ := hl.atI e2
    rcases hs with hs | hs
    · exact .inl ⟨p, vs, i, v, rfl, rfl, hs, e3, k _ H (.refl H) r⟩
    · exact .inr (.inl ⟨p, vs, i, v, rfl, rfl, hs, e3, k _ H (.refl H) r⟩)
  · cases e
def cutD (ds : List D) (lo hi : Option Int) : List D := (ds.drop (HT.sIx ds.length 0 lo)).take (HT.sIx ds.length ds.length hi - HT.sIx ds.length 0 lo)
theorem RepL.cut {ds : List D} {vs : List V} (h : RepL T H w ds vs) (lo hi : Option Int) : RepL T H w (cutD ds lo hi) (cutV vs lo hi) := by
  unfold cutD cutV
  rw [h.length]
  exact (h.drop _).take _
/-! ### built-ins -/
def tynD : D → Option String
  | .non => some "NoneType"
  | .bl _ => some "bool"
  | .int _ => some "int"
  | .str _ => some "str"
  | .nd k _ => match k with
    | .tup => some "tuple"
    | .lst => some "list"
    | .scr => some "list"
    | .dK _ => some "dict"
    | .dT _ => some "dict"
    | .obj _ => none
theorem Rep.tyx {d : D} {v : V} {n : String} (h : Rep T H w d v) (e : tynD d = some n) (nd : ∀ ks ds, d ≠ .nd (.dT ks) ds) : TyX T.K H v (.type n) := by
  cases d with
  | non => rw [Rep.non_] at h; subst h; cases e; exact .base .non
  | bl b => rw [Rep.bl_] at h; subst h; cases e; exact .base (.bl b)
  | int b => rw [Rep.int_] at h; subst h; cases e; exact .base (.int b)
  | str b => rw [Rep.str_] at h; subst h; cases e; exact .base (.str b)
  | nd k ds =>
    obtain ⟨a, vs, rfl, ha, hl⟩ := Rep.node.mp h
    cases k with
    | tup =>
      cases e
      obtain ⟨_, ⟨_, _, h | ⟨o, h⟩, _⟩ | ⟨_, o, _, _, h, c, _⟩ | ⟨e, _⟩⟩ := ha
      · exact .base (.tup h)
      · exact .fTuple h
      · exact .kTuple h c
      · cases e
    | lst => cases e; exact .base (.lst ha.lst)
    | scr =>
      cases e
      obtain ⟨_, ⟨_, _, h | ⟨o, h⟩, _⟩ | ⟨e, _⟩ | ⟨_, o, _, _, h, c, _⟩⟩ := ha
      · exact .base (.lst h)
      · exact .base (.frz h)
      · cases e
      · exact .kList h c
    | dK ks =>
      cases e
      obtain ⟨_, ⟨_, _, h | ⟨o, h⟩, _⟩ | ⟨e, _⟩ | ⟨e, _⟩⟩ := ha
      · exact .base (.dK h)
      · exact .fDict h
      · cases e
      · cases e
    | dT ks => exact absurd rfl (nd ks ds)
    | obj c => cases e
/-- isinstance(x, n); oi: the answer for an own class's instance -/
def isiD (n : String) (d : D) : Option D := (tynD d).bind fun m => if m = "dict" then none else (kitB m n).map .bl
def isi2 (n m : String) (d : D) : Option D := (tynD d).bind fun q => if q = "dict" then none else match kitB q n, kitB q m with
  | some true, _ => some (.bl true)
  | some false, some b => some (.bl b)
  | _, _ => none
def lenD : List D → Option D
  | [d] => match d with
    | .str x => if x.length ≤ sizeLine then some (.int x.length) else none
    | d => d.seq.map fun ds => .int ds.length
  | _ => none
theorem lenD_ok : RLD T (fun xs H Q => ∃ x n, xs = [x] ∧ LenV T.K x H n ∧ Q (.int n) H) lenD := by
  intro w H as d xs Q fr e h k
  unfold lenD at e
  split at e
  · rename_i d'
    simp only [RepL] at h
    obtain ⟨v, ws, rfl, r, rfl⟩ := h
    refine ⟨v, ?_⟩
    cases d' with
    | str x =>
      rw [Rep.str_] at r; subst r
      dsimp only at e
      split at e
      · rename_i hz; cases e; exact ⟨_, rfl, ⟨hz, rfl⟩, k _ H (.refl H) (Rep.int_.mpr rfl)⟩
      · cases e
    | nd kk ds =>
      simp only [Option.map_eq_some_iff] at e
      obtain ⟨es, e, rfl⟩ := e
      obtain ⟨a, vs, rfl, hs, hl⟩ := r.seq e
      refine ⟨_, rfl, ?_, k _ H (.refl H) (Rep.int_.mpr rfl)⟩
      rcases hs with hs | hs
      · exact .inl ⟨vs, hs, hl.length⟩
      · exact .inr ⟨vs, hs, hl.length⟩
    | non => simp [D.seq] at e
    | bl _ => simp [D.seq] at e
    | int _ => simp [D.seq] at e
  · cases e
def absD : List D → Option D
  | [.int i] => some (.int (if i < 0 then -i else i))
  | _ => none
theorem absD_ok : RLD T (fun xs H Q => ∃ i, xs = [.int i] ∧ Q (.int (if i < 0 then -i else i)) H) absD := by
  intro w H as d xs Q fr e h k
  unfold absD at e
  split at e
  · cases e
    simp only [RepL, Rep.int_] at h
    obtain ⟨v, ws, rfl, rfl, rfl⟩ := h
    exact ⟨_, rfl, k _ H (.refl H) (Rep.int_.mpr rfl)⟩
  · cases e
def int2 (f : Int → Int → Int) : List D → Option D
  | [.int i, .int j] => some (.int (f i j))
  | _ => none
theorem int2_ok {f : Int → Int → Int} : RLD T (fun xs H Q => ∃ i j, xs = [.int i, .int j] ∧ Q (.int (f i j)) H) (int2 f) := by
  intro w H as d xs Q fr e h k
  unfold int2 at e
  split at e
  · cases e
    simp only [RepL, Rep.int_] at h
    obtain ⟨v, ws, rfl, rfl, v, ws, rfl, rfl, rfl⟩ := h
    exact ⟨_, _, rfl, k _ H (.refl H) (Rep.int_.mpr rfl)⟩
  · cases e
def max2 : List D → Option D := int2 fun i j => if j > i then j else i
def min2 : List D → Option D := int2 fun i j => if j < i then j else i
def intD : List D → Option D
  | [.int i] => some (.int i)
  | [.bl k] => some (.int (if k then 1 else 0))
  | _ => none
theorem intD_ok : RLD T (fun xs H Q => (∃ i, xs = [.int i] ∧ Q (.int i) H) ∨ ∃ k, xs = [.bl k] ∧ Q (.int (if k then 1 else 0)) H) intD := by
  intro w H as d xs Q fr e h k
  unfold intD at e
  split at e
  · cases e
    simp only [RepL, Rep.int_] at h
    obtain ⟨v, ws, rfl, rfl, rfl⟩ := h
    exact .inl ⟨_, rfl, k _ H (.refl H) (Rep.int_.mpr rfl)⟩
  · cases e
    simp only [RepL, Rep.bl_] at h
    obtain ⟨v, ws, rfl, rfl, rfl⟩ := h
    exact .inr ⟨_, rfl, k _ H (.refl H) (Rep.int_.mpr rfl)⟩
  · cases e
def boolD : List D → Option D
  | [.int i] => some (.bl (i != 0))
  | [.bl k] => some (.bl k)
  | _ => none
theorem boolD_ok : RLD T (fun xs H Q => (∃ i, xs = [.int i] ∧ Q (.bl (i != 0)) H) ∨ ∃ k, xs = [.bl k] ∧ Q (.bl k) H) boolD := by
  intro w H as d xs Q fr e h k
  unfold boolD at e
  split at e
  · cases e
    simp only [RepL, Rep.int_] at h
    obtain ⟨v, ws, rfl, rfl, rfl⟩ := h
    exact .inl ⟨_, rfl, k _ H (.refl H) (Rep.bl_.mpr rfl)⟩
  · cases e
    simp only [RepL, Rep.bl_] at h
    obtain ⟨v, ws, rfl, rfl, rfl⟩ := h
    exact .inr ⟨_, rfl, k _ H (.refl H) (Rep.bl_.mpr rfl)⟩
  · cases e
def sumD : List D → Option D
  | [d] => (d.lsq.bind intsD).map fun ns => .int ns.sum
  | _ => none
theorem sumD_ok : RLD T (rSum T.K) sumD := by
  intro w H as d xs Q fr e h k
  unfold sumD at e
  split at e
  · simp only [RepL] at h
    obtain ⟨v, ws, rfl, r, rfl⟩ := h
    simp only [Option.map_eq_some_iff, Option.bind_eq_some_iff] at e
    obtain ⟨ns, ⟨ds, e1, e2⟩, rfl⟩ := e
    obtain ⟨a, vs, rfl, hs, hl⟩ := r.lsq e1
    rw [hl.ints e2] at hs
    exact ⟨a, ns, rfl, hs, k _ H (.refl H) (Rep.int_.mpr rfl)⟩
  · cases e
def blsD : List D → Option (List Bool)
  | [] => some []
  | .bl i :: ds => (blsD ds).map (i :: ·)
  | _ :: _ => none
theorem RepL.bls : ∀ {ds : List D} {vs : List V} {ns : List Bool}, RepL T H w ds vs → blsD ds = some ns → vs = ns.map V.bl
  | [], vs, ns, h, e => by simp only [RepL] at h; simp only [blsD, Option.some.injEq] at e; subst h; subst e; rfl
  | .bl i :: ds, vs, ns, h, e => by
    simp only [RepL, Rep.bl_] at h
    obtain ⟨v, ws, rfl, rfl, h⟩ := h
    simp only [blsD, Option.map_eq_some_iff] at e
    obtain ⟨ms, e, rfl⟩ := e
    rw [RepL.bls h e]; rfl
  | .non :: ds, vs, ns, h, e => by simp [blsD] at e
  | .int _ :: ds, vs, ns, h, e => by simp [blsD] at e
  | .str _ :: ds, vs, ns, h, e => by simp [blsD] at e
  | .nd _ _ :: ds, vs, ns, h, e => by simp [blsD] at e
theorem blsD_map (ns : List Bool) : blsD (ns.map D.bl) = some ns := by
  induction ns with
  | nil => rfl
  | cons n ns ih => simp [blsD, ih]
def allD : List D → Option D
  | [d] => (d.lsq.bind blsD).map fun ns => .bl (ns.all id)
  | _ => none
def anyD : List D → Option D
  | [d] => (d.lsq.bind blsD).map fun ns => .bl (ns.any id)
  | _ => none
theorem allD_ok : RLD T (rAll T.K) allD := by
  intro w H as d xs Q fr e h k
  unfold allD at e
  split at e
  · simp only [RepL] at h
    obtain ⟨v, ws, rfl, r, rfl⟩ := h
    simp only [Option.map_eq_some_iff, Option.bind_eq_some_iff] at e
    obtain ⟨ns, ⟨ds, e1, e2⟩, rfl⟩ := e
    obtain ⟨a, vs, rfl, hs, hl⟩ := r.lsq e1
    rw [hl.bls e2] at hs
    exact ⟨a, ns, rfl, hs, k _ H (.refl H) (Rep.bl_.mpr rfl)⟩
  · cases e
theorem anyD_ok : RLD T (rAny T.K) anyD := by
  intro w H as d xs Q fr e h k
  unfold anyD at e
  split at e
  · simp only [RepL] at h
    obtain ⟨v, ws, rfl, r, rfl⟩ := h
    simp only [Option.map_eq_some_iff, Option.bind_eq_some_iff] at e
    obtain ⟨ns, ⟨ds, e1, e2⟩, rfl⟩ := e
    obtain ⟨a, vs, rfl, hs, hl⟩ := r.lsq e1
    rw [hl.bls e2] at hs
    exact ⟨a, ns, rfl, hs, k _ H (.refl H) (Rep.bl_.mpr rfl)⟩
  · cases e
def tupleD : List D → Option D
  | [d] => d.seq.map fun ds => .nd .tup ds
  | _ => none
theorem tupleD_ok : RLD T (fun xs H Q => ∃ p ys, xs = [.ref p] ∧ ((SqL T.K H p ys ∧ ∀ l, H l = none → Q (.ref l) (upd H l (.tup ys))) ∨ (SqT T.K H p ys ∧ Q (.ref p) H))) tupleD := by
  intro w H as d xs Q fr e h k
  unfold tupleD at e
  split at e
  · rename_i d'
    simp only [RepL] at h
    obtain ⟨v, ws, rfl, r, rfl⟩ := h
    simp only [Option.map_eq_some_iff] at e
    obtain ⟨ds, e, rfl⟩ := e
    cases d' with
    | nd kk es =>
      obtain ⟨a, vs, rfl, ha, hl⟩ := Rep.node.mp r
      refine ⟨a, vs, rfl, ?_⟩
      cases kk with
      | tup => cases e; exact .inr ⟨ha.tup, k _ H (.refl H) r⟩
      | lst => cases e; exact .inl ⟨ha.sql, fun l hl' => k _ _ (same_upd hl') (.newT hl hl' (fr l hl'))⟩
      | scr => cases e; exact .inl ⟨ha.scr, fun l hl' => k _ _ (same_upd hl') (.newT hl hl' (fr l hl'))⟩
      | dK ks => simp [D.seq] at e
      | dT ks => simp [D.seq] at e
      | obj c => simp [D.seq] at e
    | _ => simp [D.seq] at e
  · cases e
def listD : List D → Option (List D)
  | [d] => d.seq
  | _ => none
theorem listD_ok : RLL T (fun xs H Q => ∃ p ys, xs = [.ref p] ∧ (SqL T.K H p ys ∨ SqT T.K H p ys) ∧ ∀ l, H l = none → Q (.ref l) (upd H l (.lst ys))) listD := by
  intro w H as d xs Q fr e h k
  unfold listD at e
  split at e
  · simp only [RepL] at h
    obtain ⟨v, ws, rfl, r, rfl⟩ := h
    obtain ⟨a, vs, rfl, hs, hl⟩ := r.seq e
    exact ⟨a, vs, rfl, hs, fun l h1 => k l vs h1 hl⟩
  · cases e
end
end Y
set_option Elab.async false
set_option maxRecDepth 100000
set_option linter.all false
/-! The value layer: tests, slices, fields, some calls. -/
namespace Y
open PySem L2
open PySem.Spec PyProof.Rows
/-! ### t[::-1] of a tuple -/
section
open HT
variable {prog : Program} {w : World} {A : Around} {E : Value → Shared → Prop} {s : Shared}
theorem adjust_back (n : Nat) : Builtin.Slice.sliceAdjust none none (-1) (n : Int) = ((n : Int) - 1, -1) := by
  unfold Builtin.Slice.sliceAdjust
  simp only [show ((-1 : Int) < 0) from by omega, if_true]
theorem places_back (n : Nat) : Builtin.Slice.slicePlaces ((n : Int) - 1) (-1) (-1) = n := by
  unfold Builtin.Slice.slicePlaces
  simp only [show ¬ ((-1 : Int) > 0) from by omega, if_false]
  have e : ((n : Int) - 1 - -1) = n := by omega
  split <;> simp_all <;> omega
theorem filterMap_some {α β : Type} {f : α → Option β} {g : α → β} : ∀ {l : List α}, (∀ m, m ∈ l → f m = some (g m)) → l.filterMap f = l.map g
  | [], _ => rfl
  | x :: l, h => by
    rw [List.filterMap_cons, h x List.mem_cons_self, List.map_cons, filterMap_some fun m hm => h m (List.mem_cons_of_mem _ hm)]
theorem pick_back (xs : List Value) : ((List.range xs.length).filterMap fun (m : Nat) => xs.toArray[(((xs.length : Int) - 1) + (m : Int) * (-1)).toNat]?) = xs.reverse := by
  have e : ∀ m, m ∈ List.range xs.length → (xs.toArray[(((xs.length : Int) - 1) + (m : Int) * (-1)).toNat]?) = some (xs.getD (xs.length - 1 - m) .none) := fun m hm => by
    have h := List.mem_range.mp hm
    have e1 : (((xs.length : Int) - 1) + (m : Int) * (-1)).toNat = xs.length - 1 - m := by omega
    have h2 : xs.length - 1 - m < xs.length := by omega
    rw [e1]
    simp [h2]
  rw [filterMap_some e]
  apply List.ext_getElem?
  intro i
  rw [List.getElem?_map]
  by_cases hi : i < xs.length
  · have h2 : xs.length - 1 - i < xs.length := by omega
    rw [List.getElem?_range hi, List.getElem?_reverse hi]
    simp [h2]
  · rw [List.getElem?_eq_none (by simpa using hi), List.getElem?_eq_none (by simpa using hi)]
    rfl
theorem getItem_tup_back {t sl : Addr} {xs : List Value} {vl vu vs : Value} {Q : Value → Shared → Prop} (ht : IsTup s.heap t xs.toArray) (hs : s.heap.get? sl = some { cls := .type "slice", data := .fields #[vl, vu, vs] }) (pl : IsPart vl none) (pu : IsPart vu none) (ps : IsPart vs (some (-1)))
    (h : Q (.ref s.heap.objs.size) { s with heap := s.heap.push { cls := .type "tuple", data := .seq xs.reverse.toArray } }) (hsz : xs.length ≤ sizeLine) : wpAny (model prog w) A (getItem (.ref t) (.ref sl)) Q E s := by
  have hTs : s.TypeIs (.ref sl) "slice" := ⟨_, hs, rfl⟩
  have hz : sizeOk (.seq xs.reverse.toArray) := by show xs.reverse.toArray.size ≤ sizeLine; simpa using hsz
  unfold getItem
  try with_reducible refine wpAny_holding ?_
  first | refine wpAny_bind (wpAny_pure ?_) | skip
  refine wpAny_bind (wpAny_sequenceKey ht.typeIs (by decide) ?_)
  refine wpAny_bind (wpAny_callSpecial?_slot (name := Str.ofString "__getitem__") ht.typeIs PyProof.Rows.slot_tuple_getitem
    (wpAny_call_entry PyProof.Rows.slot_tuple_getitem ht.typeIs entry_tuple_getitem ?_ (args_tuple_getitem _ _)))
  show wpAny _ _ (Builtin.Tuple.tupleItemsOf (.ref t) >>= _) _ _ s
  refine wpAny_bind (tupleItemsOf_ ht ?_)
  refine wpAny_bind (wpAny_typeOf hTs ?_)
  rw [if_pos (by decide)]
  have hap : ∀ {A : Around} {Q : Int × Int × Nat → Shared → Prop}, Q ((xs.length : Int) - 1, -1, xs.length) s → wpAny (model prog w) A (Builtin.Slice.sliceApplied (.ref sl) (pure ((xs.toArray.size : Nat) : Int))) Q E s := fun {A Q} q => by
    unfold Builtin.Slice.sliceApplied Builtin.Slice.sliceFields
    refine wpAny_bind (wpAny_bind (wpAny_field hs rfl (x := vl) rfl (wpAny_bind (wpAny_field hs rfl (x := vu) rfl (wpAny_bind (wpAny_field hs rfl (x := vs) rfl (wpAny_pure ?_)))))))
    refine wpAny_bind (slicePart_ ps ?_)
    show wpAny _ _ (if ((-1 : Int) == 0) = true then _ else _) _ _ s
    rw [if_neg (by decide)]
    refine wpAny_bind (slicePart_ pl (wpAny_bind (slicePart_ pu (wpAny_bind (wpAny_pure ?_)))))
    show wpAny _ _ (match Builtin.Slice.sliceAdjust none none (-1) ((xs.toArray.size : Nat) : Int) with | (lo, hi) => pure (lo, (-1 : Int), Builtin.Slice.slicePlaces lo hi (-1))) _ _ s
    rw [List.size_toArray, adjust_back]
    show wpAny _ _ (pure ((xs.length : Int) - 1, (-1 : Int), Builtin.Slice.slicePlaces ((xs.length : Int) - 1) (-1) (-1))) _ _ s
    rw [places_back]
    exact wpAny_pure q
  refine wpAny_bind (hap ?_)
  show wpAny _ _ (if (((xs.length : Int) - 1) == 0 && (-1 : Int) == 1 && xs.length == xs.toArray.size) = true then _ else _) _ _ s
  rw [if_neg (by simp), pick_back]
  first
    | exact wpAny_bind (m := Builtin.Tuple.tupleExact _) (wpAny_newObj_type (wpAny_pure ⟨_, rfl, wpAny_pure h⟩) hz)
    | exact wpAny_bind (m := Builtin.Tuple.tupleExact _) (wpAny_newObj_type (wpAny_bind (wpAny_pure (wpAny_pure ⟨_, rfl, wpAny_pure h⟩))) hz)
    | exact wpAny_bind (wpAny_bind (m := Builtin.Tuple.tupleExact _) (wpAny_newObj_type (wpAny_pure (wpAny_pure ⟨_, rfl, wpAny_pure h⟩)) hz))
    | exact wpAny_bind (wpAny_bind (m := Builtin.Tuple.tupleExact _) (wpAny_newObj_type (wpAny_pure ⟨_, rfl, wpAny_pure h⟩) hz))
end
section
variable {T : Tb} {X : Cx} {W : WX} {a b c : Expr} {fa fb fc : M D} {ga gb : M Bool} {pos : Pos}
/-! ### tests -/
def mtru (f : M D) : M Bool := mbind f fun d => mlift (truD d)
def blD : D → Option Bool
  | .bl b => some b
  | _ => none
def mbl (f : M D) : M Bool := mbind f fun d => mlift (blD d)
theorem blD_some {d : D} {c : Bool} (e : blD d = some c) : d = .bl c := by cases d <;> simp_all [blD]
theorem sT_mono {e : Expr} {σ : L2.St} {H : Hp} {Q Q' : Bool → Hp → Prop} (h : sT X e σ H Q) (k : ∀ v H', Q v H' → Q' v H') : sT X e σ H Q' := by
  unfold sT at h ⊢
  exact fun pins s I => thn (h pins s I) fun u s' ⟨H', I', q⟩ => ⟨H', I', k _ _ q⟩
theorem tv_tru (hK : X.K = T.K) (ha : EV T X W a fa) (he : ∀ whole, isTrue a X.env whole = (do let v ← whole; standAt a.pos; holding [v] (truthy v)) := by intro _; rfl) : TV T X W a (mtru fa) := by
  intro r w σ H ρ Q s p
  refine sT_of (pt_truth pe_s he) ?_
  refine ha r w σ H ρ _ s (p.bind fun d ρ1 x H1 w1 s1 q1 e1 p1 => ?_)
  obtain ⟨k, ek, p2⟩ := p1.lift1
  exact ⟨k, by rw [hK]; exact q1.tru ek, p2.ret s1 rfl⟩
theorem tv_cmp {op : CmpOp} {rr : R2} {g : D → D → Option D} (ho : OpR X (compareOp op) rr) (hd : R2D T rr g) (ha : EV T X W a fa) (hb : EV T X W b fb) (hm : behindInMarks op b = false) : TV T X W (.Compare a [op] [b] pos) (mbl (m2 g fa fb)) := by
  intro r w σ H ρ Q s p
  refine sT_of (pt_cmpR ho pe_s pe_s hm) ?_
  have assoc : mbl (m2 g fa fb) ρ = mbind fa (fun a => mbind fb fun b => mbind (mlift (g a b)) fun d => mlift (blD d)) ρ := by
    unfold mbl m2 mbind
    cases fa ρ with
    | ok q =>
      dsimp only
      cases fb q.2 <;> rfl
    | er c ds ρ' => rfl
    | stuck => rfl
  rw [assoc] at p
  refine ha r w σ H ρ _ s (p.bind fun a ρ1 x H1 w1 s1 q1 e1 p1 => ?_)
  refine hb r w1 σ H1 ρ1 _ s1 (p1.bind fun b ρ2 y H2 w2 s2 q2 e2 p2 => ?_)
  obtain ⟨d, eg, p3⟩ := p2.lift
  obtain ⟨k, ek, p4⟩ := p3.lift1
  have := blD_some ek
  subst this
  refine hd w2 H2 a b _ x y _ s2.fr eg (q1.evo e2) q2 fun v H' kk rep => ?_
  rw [Rep.bl_] at rep
  exact ⟨k, rep, p4.new s2 kk rfl⟩
def mnot (g : M Bool) : M Bool := mbind g fun b => mret !b
theorem tv_not (ha : TV T X W a ga) : TV T X W (.UnaryOp .Not a pos) (mnot ga) := by
  intro r w σ H ρ Q s p
  refine sT_of (pt_not pt_s) ?_
  refine ha r w σ H ρ _ s (p.bind fun d ρ1 x H1 w1 s1 q1 e1 p1 => ?_)
  subst q1
  exact p1.ret s1 rfl
theorem tv_w (h : WV T X W a ga) : TV T X W a ga := fun r w σ H ρ Q s p => sT_of pw_s.pt (h r w σ H ρ Q s p)
def mand (f g : M Bool) : M Bool := mbind f fun b => if b = true then g else mret false
def mor (f g : M Bool) : M Bool := mbind f fun b => if b = true then mret true else g
variable {rest : List Expr}
theorem wv_and1 (ha : TV T X W a ga) : WV T X W (.BoolOp .And [a] pos) ga := fun r w σ H ρ Q s p => sW_of (pw_and1 pt_s) (ha r w σ H ρ Q s p)
theorem wv_or1 (ha : TV T X W a ga) : WV T X W (.BoolOp .Or [a] pos) ga := fun r w σ H ρ Q s p => sW_of (pw_or1 pt_s) (ha r w σ H ρ Q s p)
theorem wv_and (ha : TV T X W a ga) (hb : WV T X W (.BoolOp .And (b :: rest) pos) gb) : WV T X W (.BoolOp .And (a :: b :: rest) pos) (mand ga gb) := by
  intro r w σ H ρ Q s p
  refine sW_of (pw_and pt_s pw_s) ?_
  refine ha r w σ H ρ _ s (p.bind fun d ρ1 x H1 w1 s1 q1 e1 p1 => ?_)
  subst q1
  cases d with
  | true => exact hb r w1 σ H1 ρ1 Q s1 p1
  | false => exact p1.ret s1 rfl
theorem wv_or (ha : TV T X W a ga) (hb : WV T X W (.BoolOp .Or (b :: rest) pos) gb) : WV T X W (.BoolOp .Or (a :: b :: rest) pos) (mor ga gb) := by
  intro r w σ H ρ Q s p
  refine sW_of (pw_or pt_s pw_s) ?_
  refine ha r w σ H ρ _ s (p.bind fun d ρ1 x H1 w1 s1 q1 e1 p1 => ?_)
  subst q1
  cases d with
  | true => exact p1.ret s1 rfl
  | false => exact hb r w1 σ H1 ρ1 Q s1 p1
/-! .. as values -/
def mandV (f g : M D) : M D := mbind f fun d => mbind (mlift (truD d)) fun b => if b = true then g else mret d
def morV (f g : M D) : M D := mbind f fun d => mbind (mlift (truD d)) fun b => if b = true then mret d else g
def mnotV (f : M D) : M D := mbind f fun d => mbind (mlift (truD d)) fun b => mret (.bl !b)
theorem ev_one {op} (ha : EV T X W a fa) : EV T X W (.BoolOp op [a] pos) fa := fun r w σ H ρ Q s p => sE_of (pe_one pe_s) (ha r w σ H ρ Q s p)
theorem ev_and (hK : X.K = T.K) (ha : EV T X W a fa) (hb : EV T X W (.BoolOp .And (b :: rest) pos) fb) : EV T X W (.BoolOp .And (a :: b :: rest) pos) (mandV fa fb) := by
  intro r w σ H ρ Q s p
  refine sE_of (pe_andT pe_s pe_s) ?_
  refine ha r w σ H ρ _ s (p.bind fun d ρ1 x H1 w1 s1 q1 e1 p1 => ?_)
  obtain ⟨k, ek, p2⟩ := p1.lift
  refine ⟨k, by rw [hK]; exact q1.tru ek, ?_⟩
  cases k with
  | true => exact hb r w1 σ H1 ρ1 Q s1 p2
  | false => exact p2.ret s1 q1
theorem ev_or (hK : X.K = T.K) (ha : EV T X W a fa) (hb : EV T X W (.BoolOp .Or (b :: rest) pos) fb) : EV T X W (.BoolOp .Or (a :: b :: rest) pos) (morV fa fb) := by
  intro r w σ H ρ Q s p
  refine sE_of (pe_orT pe_s pe_s) ?_
  refine ha r w σ H ρ _ s (p.bind fun d ρ1 x H1 w1 s1 q1 e1 p1 => ?_)
  obtain ⟨k, ek, p2⟩ := p1.lift
  refine ⟨k, by rw [hK]; exact q1.tru ek, ?_⟩
  cases k with
  | true => exact p2.ret s1 q1
  | false => exact hb r w1 σ H1 ρ1 Q s1 p2
theorem ev_not (hK : X.K = T.K) (ha : EV T X W a fa) : EV T X W (.UnaryOp .Not a pos) (mnotV fa) := by
  intro r w σ H ρ Q s p
  refine sE_of (pe_notT pe_s) ?_
  refine ha r w σ H ρ _ s (p.bind fun d ρ1 x H1 w1 s1 q1 e1 p1 => ?_)
  obtain ⟨k, ek, p2⟩ := p1.lift
  exact ⟨k, by rw [hK]; exact q1.tru ek, p2.ret s1 (Rep.bl_.mpr rfl)⟩
def mif {α : Type} (c : M Bool) (f g : M α) : M α := mbind c fun b => if b = true then f else g
theorem ev_if (hc : TV T X W c ga) (ha : EV T X W a fa) (hb : EV T X W b fb) : EV T X W (.IfExp c a b pos) (mif ga fa fb) := by
  intro r w σ H ρ Q s p
  refine sE_of (pe_ifExp pt_s pe_s pe_s) ?_
  refine hc r w σ H ρ _ s (p.bind fun d ρ1 x H1 w1 s1 q1 e1 p1 => ?_)
  subst q1
  cases d with
  | true => exact ha r w1 σ H1 ρ1 Q s1 p1
  | false => exact hb r w1 σ H1 ρ1 Q s1 p1
theorem eo_if {fa fb : M O} (hc : TV T X W c ga) (ha : EO T X W a fa) (hb : EO T X W b fb) : EO T X W (.IfExp c a b pos) (mif ga fa fb) := by
  intro r w σ H ρ Q s p
  refine sE_of (pe_ifExp pt_s pe_s pe_s) ?_
  refine hc r w σ H ρ _ s (p.bind fun d ρ1 x H1 w1 s1 q1 e1 p1 => ?_)
  subst q1
  cases d with
  | true => exact ha r w1 σ H1 ρ1 Q s1 p1
  | false => exact hb r w1 σ H1 ρ1 Q s1 p1
def mchain (g g' : D → D → Option D) (fa fb fc : M D) : M D := mbind fa fun a => mbind fb fun b => mbind (mlift (g a b)) fun d => mbind (mlift (blD d)) fun k =>
  if k = true then mbind fc fun c => mlift (g' b c) else mret (.bl false)
theorem ev_chain {op op' : CmpOp} {rr rr' : R2} {g g' : D → D → Option D} (ho : OpR X (compareOp op) rr) (hd : R2D T rr g) (ho' : OpR X (compareOp op') rr') (hd' : R2D T rr' g') (ha : EV T X W a fa) (hb : EV T X W b fb) (hc : EV T X W c fc)
    (hm : lastMarks [op, op'] [b, c] = false := by with_unfolding_all rfl) : EV T X W (.Compare a [op, op'] [b, c] pos) (mchain g g' fa fb fc) := by
  intro r w σ H ρ Q s p
  refine sE_of (pe_chain ho ho' pe_s pe_s pe_s hm) ?_
  refine ha r w σ H ρ _ s (p.bind fun a ρ1 x H1 w1 s1 q1 e1 p1 => ?_)
  refine hb r w1 σ H1 ρ1 _ s1 (p1.bind fun b ρ2 y H2 w2 s2 q2 e2 p2 => ?_)
  obtain ⟨d, eg, p3⟩ := p2.lift
  obtain ⟨k, ek, p4⟩ := p3.lift
  have := blD_some ek
  subst this
  refine hd w2 H2 a b _ x y _ s2.fr eg (q1.evo e2) q2 fun v H' kk rep => ?_
  rw [Rep.bl_] at rep
  refine ⟨k, rep, ?_⟩
  have s3 := s2.same kk
  cases k with
  | true =>
    have p5 : Post T W w2 H' σ r (Rep T) (mbind fc (fun c => mlift (g' b c)) ρ2) Q := by
      have p4 : Post T W w2 H2 σ r (Rep T) (mbind fc (fun c => mlift (g' b c)) ρ2) Q := p4
      revert p4
      cases mbind fc (fun c => mlift (g' b c)) ρ2 with
      | ok q => exact fun p4 b H3 w3 s q e => p4 b H3 w3 s q ((Evo.same kk).trans e)
      | er c ds ρ3 => exact fun p4 r cls dd H3 w3 s q e => p4 r cls dd H3 w3 s q ((Evo.same kk).trans e)
      | stuck => exact fun p => p
    rw [if_pos rfl]
    refine hc r w2 σ H' ρ2 _ s3 (p5.bind fun c ρ3 z H3 w3 s4 q3 e3 p6 => ?_)
    obtain ⟨d, eg, p7⟩ := p6.lift1
    exact hd' w3 H3 b c d y z Q s4.fr eg ((q2.same kk).evo e3) q3 fun v H' k rep => p7.new s4 k rep
  | false =>
    rw [if_neg (by decide)]
    exact p4.new s2 kk (Rep.bl_.mpr rfl)
theorem tv_chain {op op' : CmpOp} {rr rr' : R2} {g g' : D → D → Option D} (ho : OpR X (compareOp op) rr) (hd : R2D T rr g) (ho' : OpR X (compareOp op') rr') (hd' : R2D T rr' g') (ha : EV T X W a fa) (hb : EV T X W b fb) (hc : EV T X W c fc)
    (hm : lastMarks [op, op'] [b, c] = false := by with_unfolding_all rfl) (hv : PT X (.Compare a [op, op'] [b, c] pos) (tB (sE X (.Compare a [op, op'] [b, c] pos))) ) : TV T X W (.Compare a [op, op'] [b, c] pos) (mbl (mchain g g' fa fb fc)) := by
  intro r w σ H ρ Q s p
  refine sT_of hv ?_
  refine ev_chain ho hd ho' hd' ha hb hc hm r w σ H ρ _ s (p.bind fun d ρ1 x H1 w1 s1 q1 e1 p1 => ?_)
  obtain ⟨k, ek, p4⟩ := p1.lift1
  have := blD_some ek
  subst this
  rw [Rep.bl_] at q1
  exact ⟨k, q1, p4.ret s1 rfl⟩
/-! ### slices -/
def mpart : Option (M D) → M (Option Int)
  | none => mret none
  | some f => mbind f fun d => match d with
    | .int i => mret (some i)
    | _ => mstuck
def PV (T : Tb) (X : Cx) (W : WX) : Option Expr → Option (M D) → Prop
  | none, none => True
  | some e, some f => EV T X W e f
  | _, _ => False
theorem pv_none : PV T X W none none := trivial
theorem pv_some (h : EV T X W a fa) : PV T X W (some a) (some fa) := h
theorem PV.po {o : Option Expr} {f : Option (M D)} (h : PV T X W o f) : ∃ t, PO X o t ∧ ∀ r w σ H ρ Q, SR T r w σ H ρ → Post T W w H σ r (fun _ _ (a b : Option Int) => a = b) (mpart f ρ) Q → t σ H Q := by
  cases o with
  | none =>
    cases f with
    | none => exact ⟨_, po_none, fun r w σ H ρ Q s p => p.ret s rfl⟩
    | some f => exact h.elim
  | some e =>
    cases f with
    | none => exact h.elim
    | some f =>
      refine ⟨_, po_some pe_s, fun r w σ H ρ Q s p => ?_⟩
      refine h r w σ H ρ _ s (p.bind fun d ρ1 x H1 w1 s1 q1 e1 p1 => ?_)
      cases d with
      | int i => rw [Rep.int_] at q1; exact ⟨i, q1, p1.ret s1 rfl⟩
      | non => exact p1.elim
      | bl _ => exact p1.elim
      | str _ => exact p1.elim
      | nd _ _ => exact p1.elim
variable {lo hi : Option Expr} {fl fh : Option (M D)} {p2 : Pos}
def cutT (lo hi : Option Int) : D → Option D
  | .nd .tup ds => some (.nd .tup (cutD ds lo hi))
  | _ => none
def cutL (lo hi : Option Int) : D → Option (List D)
  | .nd .lst ds => some (cutD ds lo hi)
  | .nd .scr ds => some (cutD ds lo hi)
  | _ => none
def mcutT (f : M D) (lo hi : Option (M D)) : M D := mbind f fun d => mbind (mpart lo) fun l => mbind (mpart hi) fun h => mlift (cutT l h d)
def mcutL (f : M D) (lo hi : Option (M D)) : M O := mbind f fun d => mbind (mpart lo) fun l => mbind (mpart hi) fun h => mbind (mlift (cutL l h d)) fun ds => mret (nl ds)
theorem cutD_whole {ds : List D} {lo hi : Option Int} (h : HT.sIx ds.length 0 lo = 0 ∧ HT.sIx ds.length ds.length hi = ds.length) : cutD ds lo hi = ds := by
  unfold cutD
  rw [h.1, h.2, List.drop_zero, Nat.sub_zero, List.take_length]
theorem ev_cutT (hK : X.K = T.K) (ha : EV T X W a fa) (hl : PV T X W lo fl) (hh : PV T X W hi fh) : EV T X W (.Subscript a (.Slice lo hi none p2) pos) (mcutT fa fl fh) := by
  intro r w σ H ρ Q s p
  obtain ⟨tl, pl, kl⟩ := hl.po
  obtain ⟨th, ph, kh⟩ := hh.po
  refine sE_of (pe_slice sl_tupA pe_s pl ph) ?_
  refine ha r w σ H ρ _ s (p.bind fun d ρ1 x H1 w1 s1 q1 e1 p1 => ?_)
  refine kl r w1 σ H1 ρ1 _ s1 (p1.bind fun l ρ2 l' H2 w2 s2 q2 e2 p2 => ?_)
  refine kh r w2 σ H2 ρ2 _ s2 (p2.bind fun h ρ3 h' H3 w3 s3 q3 e3 p3 => ?_)
  subst q2; subst q3
  obtain ⟨d', eg, p4⟩ := p3.lift1
  have q1 := (q1.evo e2).evo e3
  unfold cutT at eg
  split at eg
  · cases eg
    obtain ⟨t, vs, rfl, at', hv⟩ := Rep.node.mp q1
    refine ⟨t, vs, rfl, by rw [hK]; exact at'.tup, fun hw => ?_, fun hw q hq => ?_⟩
    · rw [← hv.length] at hw
      rw [cutD_whole hw] at p4
      exact p4.ret s3 q1
    · exact p4.new s3 (same_upd hq) (.newT (hv.cut _ _) hq (s3.fresh hq))
  · cases eg
theorem eo_cutL (hK : X.K = T.K) (ha : EV T X W a fa) (hl : PV T X W lo fl) (hh : PV T X W hi fh) : EO T X W (.Subscript a (.Slice lo hi none p2) pos) (mcutL fa fl fh) := by
  intro r w σ H ρ Q s p
  obtain ⟨tl, pl, kl⟩ := hl.po
  obtain ⟨th, ph, kh⟩ := hh.po
  refine sE_of (pe_slice sl_list pe_s pl ph) ?_
  refine ha r w σ H ρ _ s (p.bind fun d ρ1 x H1 w1 s1 q1 e1 p1 => ?_)
  refine kl r w1 σ H1 ρ1 _ s1 (p1.bind fun l ρ2 l' H2 w2 s2 q2 e2 p2 => ?_)
  refine kh r w2 σ H2 ρ2 _ s2 (p2.bind fun h ρ3 h' H3 w3 s3 q3 e3 p3 => ?_)
  subst q2; subst q3
  obtain ⟨d', eg, p4⟩ := p3.lift
  have q1 := (q1.evo e2).evo e3
  have : ∃ t vs es, x = .ref t ∧ SqL T.K H3 t vs ∧ RepL T H3 w3 es vs ∧ d' = cutD es l h := by
    unfold cutL at eg
    split at eg
    · cases eg
      obtain ⟨t, vs, rfl, at', hv⟩ := Rep.node.mp q1
      exact ⟨t, vs, _, rfl, at'.sql, hv, rfl⟩
    · cases eg
      obtain ⟨t, vs, rfl, at', hv⟩ := Rep.node.mp q1
      exact ⟨t, vs, _, rfl, at'.scr, hv, rfl⟩
    · cases eg
  obtain ⟨t, vs, es, rfl, hs, hv, rfl⟩ := this
  exact ⟨t, vs, rfl, by rw [hK]; exact hs, fun q hq => p4.newL s3 q _ hq (hv.cut _ _)⟩
/-- t[::-1], a tuple or a list -/
def revT : D → Option D
  | .nd .tup ds => some (.nd .tup ds.reverse)
  | _ => none
def revL : D → Option (List D)
  | d => d.lsq.map List.reverse
theorem ev_revT {k : Nat} {p1 p2 p3 : Pos} (hK : X.K = T.K) (ha : EV T X W a fa) : EV T X W (.Subscript a (.Slice none none (some (.UnaryOp .USub (.Constant (.int 1) k p1) p2)) p3) pos) (m1 revT fa) := by
  intro r w σ H ρ Q s p
  have pe : PE X (.Subscript a (.Slice none none (some (.UnaryOp .USub (.Constant (.int 1) k p1) p2)) p3) pos) (fun σ H Q => sE X a σ H fun x H1 => ∃ t xs, x = .ref t ∧ SqT X.K H1 t xs ∧ ∀ p, H1 p = none → Q (.ref p) (upd H1 p (.tup xs.reverse))) := by
    refine ⟨fun pins s σ H Q I h => ?_⟩
    refine Subscript_ (thn (pe_s.run pins s σ H _ I h) fun v s1 ⟨x, H1, I1, r1, t, xs, ex, hx, q⟩ => ?_)
    subst ex
    cases r1
    have hst : PO X (some (.UnaryOp .USub (.Constant (.int 1) k p1) p2)) (tPart (tUn (rU fun i => .int (-i)) (tC (.int 1)))) := po_some (pe_un un_neg pe_int)
    refine wpAny_Slice (thn (po_none.run pins s1 σ H1 (fun o H2 => o = none ∧ H2 = H1) I1 ⟨rfl, rfl⟩) fun vl s2 ⟨l, H2, I2, pl, el, e2⟩ => ?_)
    subst el e2
    refine thn (po_none.run pins s2 σ H2 (fun o H3 => o = none ∧ H3 = H2) I2 ⟨rfl, rfl⟩) fun vu s3 ⟨u, H3, I3, pu, eu, e3⟩ => ?_
    subst eu e3
    refine thn (hst.run pins s3 σ H3 (fun o H4 => o = some (-1) ∧ H4 = H3) I3 ⟨1, rfl, -1, rfl, rfl, rfl⟩) fun vs s4 ⟨o, H4, I4, ps, eo, e4⟩ => ?_
    subst eo e4
    have I5 : Inv X pins σ H4 { s4 with heap := s4.heap.push { cls := .type "slice", data := .fields #[vl, vu, vs] } } := I4.kept (t' := s4.toks) fun b ob q => Heap.get?_push_of_some _ q
    obtain ⟨its, rv, ht, hz⟩ := I5.tuple hx
    have hlen := rv.length
    show wpAny (model X.prog X.w) X.A (subscriptTail a (.Slice none none (some (.UnaryOp .USub (.Constant (.int 1) k p1) p2)) p3) (.ref t) (.ref s4.heap.objs.size)) (EP X pins σ Q) X.xe { s4 with heap := s4.heap.push { cls := .type "slice", data := .fields #[vl, vu, vs] } }
    refine tail_any (ops := [.ref t, .ref s4.heap.objs.size]) ht.typeIs (PyProof.Rows.slot_tuple_getitem.lookup) ?_ (by with_unfolding_all rfl)
    refine getItem_tup_back ht (Heap.get?_push_size _ rfl) pl pu ps ?_ (by omega)
    refine ⟨.ref _, _, I5.laid (t' := s4.toks) (o := .tup xs.reverse) (fun b ob q => Heap.get?_push_of_some _ q) (Nat.le_refl _) ?_, rfl, q _ (I5.hok.fresh (Nat.le_refl _))⟩
    exact ⟨by rw [List.length_reverse]; exact hz, _, rv.reverse, IsTup.new _ _⟩
  refine sE_of pe ?_
  refine ha r w σ H ρ _ s (p.bind fun d ρ1 x H1 w1 s1 q1 e1 p1 => ?_)
  obtain ⟨d', eg, p2⟩ := p1.lift1
  unfold revT at eg
  split at eg
  · cases eg
    obtain ⟨t, vs, rfl, at', hv⟩ := Rep.node.mp q1
    exact ⟨t, vs, rfl, by rw [hK]; exact at'.tup, fun q hq => p2.new s1 (same_upd hq) (.newT hv.reverse hq (s1.fresh hq))⟩
  · cases eg
/-! ### fields -/
theorem zip_lookup {fl : List Str} {vs : List V} {i : Nat} {f : Str} {v : V} (hn : fl.Nodup) (hf : fl[i]? = some f) (hv : vs[i]? = some v) : (fl.zip vs).lookup f = some v := by
  induction fl generalizing vs i with
  | nil => simp at hf
  | cons g fl ih =>
    cases vs with
    | nil => simp at hv
    | cons u vs =>
      cases i with
      | zero =>
        simp at hf hv; subst hf; subst hv
        simp [List.lookup]
      | succ i =>
        have hf' : fl[i]? = some f := by simpa using hf
        have hv' : vs[i]? = some v := by simpa using hv
        have hm : f ∈ fl := List.mem_of_getElem? hf'
        have ne : (f == g) = false := by
          rw [List.nodup_cons] at hn
          exact beq_eq_false_iff_ne.mpr fun e => hn.1 (e ▸ hm)
        show (List.lookup f ((g, u) :: fl.zip vs)) = some v
        rw [List.lookup, ne]
        exact ih (List.nodup_cons.mp hn).2 hf' hv'
def fldD (c i : Nat) : D → Option D
  | .nd (.obj c') ds => if c' = c then ds[i]? else none
  | _ => none
theorem ev_fld {f : Str} {cn i : Nat} (hK : X.K = T.K) (hc : Cls T.K (T.C cn)) (hn : NoAttr T.K (T.C cn) f) (hnd : (T.fl cn).Nodup) (hf : (T.fl cn)[i]? = some f) (ha : EV T X W a fa)
    (hb : attributeBase a f X.env (eval a X.env) = eval a X.env := by rfl) : EV T X W (.Attribute a f pos) (m1 (fldD cn i) fa) := by
  intro r w σ H ρ Q s p
  refine sE_of (pe_fld pe_s hb) ?_
  refine ha r w σ H ρ _ s (p.bind fun d ρ1 x H1 w1 s1 q1 e1 p1 => ?_)
  obtain ⟨d', eg, p2⟩ := p1.lift1
  unfold fldD at eg
  split at eg
  · split at eg
    · rename_i e
      subst e
      obtain ⟨t, vs, rfl, at', hv⟩ := Rep.node.mp q1
      obtain ⟨v, ev, rv⟩ := hv.get eg
      obtain ⟨_, ⟨_, dx, _, hh⟩ | ⟨e, _⟩ | ⟨e, _⟩⟩ := at'
      · exact ⟨t, T.C _, dx, _, v, rfl, hh rfl, by rw [hK]; exact hc, by rw [hK]; exact hn, zip_lookup hnd hf ev, p2.ret s1 rv⟩
      · cases e
      · cases e
    · cases eg
  · cases eg
/-! ### isinstance -/
variable {q : Pos} {n m : String} {x y : Str}
theorem kitB_dict {k : String} {c : Bool} (e : kitB k n = some c) (K : PySem.W.Frag) : PySem.W.kitOne K (.type k) (.type n) = some c := kit_ty e
theorem ev_isi (hK : X.K = T.K) (hg : Gl X "isinstance") (hm : X.mg "isinstance" = none) (hb : PE X b (tC (.ty n))) (ha : EV T X W a fa)
    (h1 : starEach [a, b] X.env = (false, eval a X.env) :: starEach [b] X.env := by rfl) (h2 : starEach [b] X.env = (false, eval b X.env) :: starEach [] X.env := by rfl) (hpl : (backTo pos (starEach [b] X.env)).any (·.1) = false := by rfl) :
    EV T X W (.Call (.Name "isinstance" q) [a, b] [] pos) (m1 (isiD n) fa) := by
  intro r w σ H ρ Q s p
  refine sE_of (pe_callB call_isi hg hm (by decide +kernel) (pa_cons pe_s (pa_cons hb pa_nil h2) h1) (by decide) (by decide) h1 hpl) ?_
  refine ha r w σ H ρ _ s (p.bind fun d ρ1 x H1 w1 s1 q1 e1 p1 => ?_)
  obtain ⟨d', eg, p2⟩ := p1.lift1
  simp only [isiD, Option.bind_eq_some_iff] at eg
  obtain ⟨k, e1, eg⟩ := eg
  split at eg
  · cases eg
  · rename_i nd
    simp only [Option.map_eq_some_iff] at eg
    obtain ⟨c, e2, rfl⟩ := eg
    exact ⟨x, .ty n, .type k, .type n, c, rfl, .ty n, by rw [hK]; exact q1.tyx e1 (fun ks ds z => by subst z; cases e1; exact nd rfl), kit_ty e2, p2.ret s1 (Rep.bl_.mpr rfl)⟩
theorem ev_isi2 {b1 b2 : Expr} {k : Nat} {pt : Pos} (hK : X.K = T.K) (hg : Gl X "isinstance") (hm : X.mg "isinstance" = none) (hb1 : PE X b1 (tC (.ty n))) (hb2 : PE X b2 (tC (.ty m))) (ha : EV T X W a fa)
    (h1 : starEach [a, .Tuple [b1, b2] k pt] X.env = (false, eval a X.env) :: starEach [.Tuple [b1, b2] k pt] X.env := by rfl) (h2 : starEach [.Tuple [b1, b2] k pt] X.env = (false, eval (.Tuple [b1, b2] k pt) X.env) :: starEach [] X.env := by rfl)
    (h3 : starEach [b1, b2] X.env = (false, eval b1 X.env) :: starEach [b2] X.env := by rfl) (h4 : starEach [b2] X.env = (false, eval b2 X.env) :: starEach [] X.env := by rfl)
    (hpl : (backTo pos (starEach [.Tuple [b1, b2] k pt] X.env)).any (·.1) = false := by rfl) :
    EV T X W (.Call (.Name "isinstance" q) [a, .Tuple [b1, b2] k pt] [] pos) (m1 (isi2 n m) fa) := by
  intro r w σ H ρ Q s p
  refine sE_of (pe_callB call_isiT hg hm (by decide +kernel) (pa_cons pe_s (pa_cons (pe_tup (pa_cons hb1 (pa_cons hb2 pa_nil h4) h3)) pa_nil h2) h1) (by decide) (by decide) h1 hpl) ?_
  refine ha r w σ H ρ _ s (p.bind fun d ρ1 x H1 w1 s1 q1 e1 p1 => ?_)
  obtain ⟨d', eg, p2⟩ := p1.lift1
  refine ⟨by show 2 ≤ sizeLine; decide, fun t ht => ?_⟩
  simp only [isi2, Option.bind_eq_some_iff] at eg
  obtain ⟨kk, e1, eg⟩ := eg
  have q1' := q1.same (same_upd (o := .tup [.ty n, .ty m]) ht)
  split at eg
  · cases eg
  · rename_i nd
    have ty : TyX X.K (upd H1 t (.tup [.ty n, .ty m])) x (.type kk) := by rw [hK]; exact q1'.tyx e1 (fun ks ds z => by subst z; cases e1; exact nd rfl)
    have pair : Paired ClsV [V.ty n, V.ty m] [Value.type n, Value.type m] := .cons (.ty n) (.cons (.ty m) .nil)
    split at eg
    · rename_i e2
      cases eg
      exact ⟨x, t, _, .type kk, _, true, rfl, upd_same, pair, ty, kitAny_cons (kit_ty e2) (fun z => by cases z) (fun _ => rfl), p2.new s1 (same_upd ht) (Rep.bl_.mpr rfl)⟩
    · rename_i c e2 e3
      cases eg
      refine ⟨x, t, _, .type kk, _, c, rfl, upd_same, pair, ty, kitAny_cons (kit_ty e2) (fun _ => ?_) (fun z => by cases z), p2.new s1 (same_upd ht) (Rep.bl_.mpr rfl)⟩
      exact kitAny_cons (r := c) (kit_ty e3) (fun z => by subst z; exact kitAny_nil) (fun z => z)
    · cases eg
end
end Y
set_option Elab.async false
set_option maxRecDepth 100000
set_option linter.all false
/-! The value layer: places of owned trees. -/
namespace Y
open PySem L2
open PySem.Spec PyProof.Rows
def getP : O → List Nat → Option O
  | o, [] => some o
  | .val _, _ :: _ => none
  | .nd _ os, j :: π => match os[j]? with
    | some o => getP o π
    | none => none
def putP : O → List Nat → O → O
  | _, [], x => x
  | .val d, _ :: _, _ => .val d
  | .nd k os, j :: π, x => match os[j]? with
    | some o => .nd k (os.set j (putP o π x))
    | none => .nd k os
/-- v is the reference at the place -/
def RefAt (T : Tb) (H : Hp) : O → V → List Nat → V → Prop
  | _, u, [], v => u = v
  | .val _, _, _ :: _, _ => False
  | .nd k os, u, j :: π, v => ∃ a vs dx o uj, u = .ref a ∧ H a = some (k.ho T dx vs) ∧ k.fit T vs.length ∧ os[j]? = some o ∧ vs[j]? = some uj ∧ RefAt T H o uj π v
theorem prefix_append {α : Type} (a b : List α) : a <+: a ++ b := ⟨b, rfl⟩
section
variable {T : Tb} {H H' : Hp} {w w' : Own}
theorem ho_inj {k : Kd} {dx dx' : Addr} {vs vs' : List V} (h : k.ho T dx vs = k.ho T dx' vs') (f : k.fit T vs.length) (f' : k.fit T vs'.length) : vs = vs' := by
  cases k with
  | tup => exact HO.tup.inj h
  | lst => exact HO.lst.inj h
  | scr => exact HO.lst.inj h
  | dK ks =>
    have h := HO.dK.inj h
    have e1 : (ks.zip vs).map (·.2) = vs := List.map_snd_zip (Nat.le_of_eq f.symm)
    have e2 : (ks.zip vs').map (·.2) = vs' := List.map_snd_zip (Nat.le_of_eq f'.symm)
    rw [← e1, ← e2, h]
  | dT ks =>
    have h := HO.dT.inj h
    have e1 : (ks.zip vs).map (·.2) = vs := List.map_snd_zip (Nat.le_of_eq f.symm)
    have e2 : (ks.zip vs').map (·.2) = vs' := List.map_snd_zip (Nat.le_of_eq f'.symm)
    rw [← e1, ← e2, h]
  | obj c =>
    have h := (HO.ins.inj h).2.2
    have e1 : ((T.fl c).zip vs).map (·.2) = vs := List.map_snd_zip f
    have e2 : ((T.fl c).zip vs').map (·.2) = vs' := List.map_snd_zip f'
    rw [← e1, ← e2, h]
/-- the owned part at a place, and back -/
theorem Owns.sub : ∀ (π : List Nat) {o : O} {u : V} {t : Tag} {o1 : O}, Owns T H w o u t → getP o π = some o1 → ∃ v, RefAt T H o u π v ∧ Owns T H w o1 v (t.1, t.2 ++ π)
  | [], o, u, t, o1, h, e => by
    simp only [getP, Option.some.injEq] at e; subst e
    exact ⟨u, by simp only [RefAt], by simpa using h⟩
  | j :: π, .val d, u, t, o1, h, e => by simp [getP] at e
  | j :: π, .nd k os, u, t, o1, h, e => by
    simp only [getP] at e
    split at e
    · rename_i oj ej
      obtain ⟨a, vs, dx, rfl, hw, ha, hk, nt, hl⟩ := Owns.node.mp h
      obtain ⟨uj, ev, how⟩ := hl.get ej
      obtain ⟨v, rf, q⟩ := Owns.sub π how e
      refine ⟨v, ?_, ?_⟩
      · simp only [RefAt]; exact ⟨a, vs, dx, oj, uj, rfl, ha, hk, ej, ev, rf⟩
      · simpa using q
    · cases e
/-- what is there, and that it may be changed alone -/
theorem Owns.at : ∀ (π : List Nat) {o : O} {u : V} {t : Tag} {o1 : O} {v : V}, Owns T H w o u t → RefAt T H o u π v → getP o π = some o1 →
    Owns T H w o1 v (t.1, t.2 ++ π) ∧ ∀ (H' : Hp) (w' : Own) (o2 : O), (∀ a u, w a = none → H a = some u → H' a = some u ∧ w' a = none) →
      (∀ a u s, w a = some (t.1, t.2 ++ s) → ¬ π <+: s → H a = some u → H' a = some u ∧ w' a = w a) → Owns T H' w' o2 v (t.1, t.2 ++ π) → Owns T H' w' (putP o π o2) u t
  | [], o, u, t, o1, v, h, r, e => by
    simp only [getP, Option.some.injEq] at e; subst e
    simp only [RefAt] at r; subst r
    refine ⟨by simpa using h, fun H' w' o2 _ _ q => ?_⟩
    simp only [putP]
    simpa using q
  | j :: π, .val d, u, t, o1, v, h, r, e => by simp [getP] at e
  | j :: π, .nd k os, u, t, o1, v, h, r, e => by
    simp only [RefAt] at r
    obtain ⟨a, vs, dx, oj, uj, rfl, ha, hk, ej, ev, r⟩ := r
    simp only [getP, ej] at e
    obtain ⟨a2, vs2, dx2, e2, hw, ha2, hk2, nt, hl⟩ := Owns.node.mp h
    cases e2
    have eh := Option.some.inj (ha.symm.trans ha2)
    obtain rfl := ho_inj eh hk hk2
    obtain ⟨uj2, ev2, how⟩ := hl.get ej
    rw [ev] at ev2; cases ev2
    rw [Nat.zero_add] at how
    obtain ⟨q1, q2⟩ := Owns.at π how r e
    refine ⟨by simpa using q1, fun H' w' o2 fz fr q => ?_⟩
    have q' : Owns T H' w' o2 v ((t.1, t.2 ++ [j]).1, (t.1, t.2 ++ [j]).2 ++ π) := by simpa using q
    have sub := q2 H' w' o2 fz (fun a u s hw hp hu => fr a u ([j] ++ s) (by simpa using hw) (fun z => by
      obtain ⟨z1, z2⟩ := z
      exact hp ⟨z1, by simpa using z2⟩) hu) q'
    simp only [putP, ej]
    have top := fr a _ [] (by simpa using hw) (fun z => by obtain ⟨z1, z2⟩ := z; simp at z2) ha2
    refine Owns.node.mpr ⟨a, vs, dx2, rfl, by rw [top.2]; exact hw, top.1, hk2, nt, OwnsL.of_get (by rw [List.length_set]; exact hl.length) fun i o' v' e1 e2 => ?_⟩
    rw [Nat.zero_add]
    rw [List.getElem?_set] at e1
    by_cases hij : j = i
    · subst hij
      rw [if_pos rfl] at e1
      split at e1
      · cases e1
        rw [ev] at e2; cases e2
        exact sub
      · cases e1
    · rw [if_neg hij] at e1
      obtain ⟨v2, ev2, ho2⟩ := hl.get e1
      rw [e2] at ev2; cases ev2
      rw [Nat.zero_add] at ho2
      refine ho2.slot fz fun a u s hw hu => fr a u ([i] ++ s) (by simpa using hw) (fun z => ?_) hu
      obtain ⟨z1, z2⟩ := z
      simp at z2
      exact hij z2.1
/-! ### the slots -/
/-- the reference v is that of the place π of the slot i -/
structure PlAt (T : Tb) (H : Hp) (w : Own) (σ : L2.St) (ρ : Env) (i : Nat) (π : List Nat) (o1 : O) (v : V) : Prop where
  ex : ∃ o u, ρ[i]? = some (some o) ∧ σ[i]? = some (some u) ∧ Owns T H w o u (.slot i, []) ∧ getP o π = some o1 ∧ RefAt T H o u π v
def putE (ρ : Env) (i : Nat) (π : List Nat) (x : O) : Env := match ρ[i]? with
  | some (some o) => ρ.set i (some (putP o π x))
  | _ => ρ
def getE (ρ : Env) (i : Nat) (π : List Nat) : Option O := match ρ[i]? with
  | some (some o) => getP o π
  | _ => none
theorem SR.place {r : Nat} {σ : L2.St} {ρ : Env} {i : Nat} {π : List Nat} {o1 : O} (s : SR T r w σ H ρ) (e : getE ρ i π = some o1) : ∃ v, PlAt T H w σ ρ i π o1 v := by
  unfold getE at e
  split at e
  · rename_i o eo
    obtain ⟨u, eu, ow⟩ := s.sl i o eo
    obtain ⟨v, rf, _⟩ := ow.sub π e
    exact ⟨v, o, u, eo, eu, ow, e, rf⟩
  · cases e
theorem PlAt.owns {σ : L2.St} {ρ : Env} {i : Nat} {π : List Nat} {o1 : O} {v : V} (p : PlAt T H w σ ρ i π o1 v) : Owns T H w o1 v (.slot i, π) := by
  obtain ⟨o, u, eo, eu, ow, eg, rf⟩ := p.ex
  simpa using (ow.at π rf eg).1
/-- the place is changed, all else stays -/
theorem SR.put {r : Nat} {σ : L2.St} {ρ : Env} {i : Nat} {π : List Nat} {o1 o2 : O} {v : V} {r' : Nat} (s : SR T r w σ H ρ) (p : PlAt T H w σ ρ i π o1 v)
    (k : ∀ a u, (∀ s, w a ≠ some (.slot i, π ++ s)) → H a = some u → H' a = some u ∧ w' a = w a) (q : Owns T H' w' o2 v (.slot i, π)) (tm : ∀ a k π, w' a = some (.tmp k, π) → k < r') (dm : ∀ a t, w' a = some t → H' a ≠ none) :
    SR T r' w' σ H' (putE ρ i π o2) where
  ln := by
    unfold putE
    split
    · rw [List.length_set]; exact s.ln
    · exact s.ln
  sl := fun j o e => by
    obtain ⟨o0, u, eo, eu, ow, eg, rf⟩ := p.ex
    have fz : ∀ a u, w a = none → H a = some u → H' a = some u ∧ w' a = none := fun a u hw hu => by
      obtain ⟨e1, e2⟩ := k a u (fun s z => by rw [hw] at z; cases z) hu
      exact ⟨e1, e2.trans hw⟩
    unfold putE at e
    rw [eo] at e
    dsimp only at e
    rw [List.getElem?_set] at e
    by_cases hij : i = j
    · subst hij
      rw [if_pos rfl] at e
      split at e
      · cases e
        refine ⟨u, eu, (ow.at π rf eg).2 H' w' o2 fz (fun a u s hw hp hu => k a u (fun s' z => ?_) hu) (by simpa using q)⟩
        rw [hw] at z
        simp at z
        exact hp ⟨s', z.symm⟩
      · cases e
    · rw [if_neg hij] at e
      obtain ⟨v', ev, ow'⟩ := s.sl j o e
      exact ⟨v', ev, ow'.slot fz fun a u s hw hu => k a u (fun s' z => by rw [hw] at z; cases z; exact hij rfl) hu⟩
  tm := tm
  dm := dm
  fx := s.fx
  pp := T.pc _ _ _ _ (fun a u hw hu => by
    obtain ⟨e1, e2⟩ := k a u (fun s z => by rw [hw] at z; cases z) hu
    exact ⟨e1, e2.trans hw⟩) s.pp
/-- a list at a place is changed: new parts, all values -/
theorem SR.putL {r : Nat} {σ : L2.St} {ρ : Env} {i : Nat} {π : List Nat} {k : Kd} {os os' : List O} {a : Addr} {vs vs' : List V} {dx : Addr} (s : SR T r w σ H ρ) (p : PlAt T H w σ ρ i π (.nd k os) (.ref a)) (hw : w a = some (.slot i, π))
    (ha : H a = some (k.ho T dx vs)) {k' : Kd} (hk : k'.fit T vs'.length) (nt : k' ≠ .tup) (hl : OwnsL T (upd H a (k'.ho T dx vs')) w os' vs' (.slot i, π) 0) : SR T r w σ (upd H a (k'.ho T dx vs')) (putE ρ i π (.nd k' os')) ∧ Evo w H w (upd H a (k'.ho T dx vs')) := by
  refine ⟨s.put p (fun b u nb hu => ?_) (Owns.node.mpr ⟨a, vs', dx, rfl, hw, upd_same, hk, nt, hl⟩) s.tm fun b t hb => ?_, fun b u hc hu => ?_⟩
  · have ne : b ≠ a := fun z => nb [] (by subst z; simpa using hw)
    exact ⟨by rw [upd_ne ne]; exact hu, rfl⟩
  · by_cases e : b = a
    · subst e; rw [upd_same]; exact fun z => by cases z
    · rw [upd_ne e]; exact s.dm b t hb
  · have ne : b ≠ a := fun z => by
      subst z
      rcases hc with hc | ⟨k, π', hc⟩
      · rw [hw] at hc; cases hc
      · rw [hw] at hc; cases hc
    exact ⟨by rw [upd_ne ne]; exact hu, rfl⟩
/-- what lies at other tags does not see the change -/
theorem OwnsL.upd_off {a : Addr} {o : HO} {t : Tag} (hw : w a = some t) : ∀ {os : List O} {vs : List V} {j : Nat}, OwnsL T H w os vs t j → OwnsL T (upd H a o) w os vs t j := fun {os vs j} h => by
  refine OwnsL.of_get h.length fun i o' v' e1 e2 => ?_
  obtain ⟨v2, ev, ow⟩ := h.get e1
  rw [e2] at ev; cases ev
  refine ow.slot (fun b u hb hu => ⟨?_, hb⟩) fun b u s hb hu => ⟨?_, rfl⟩
  · have ne : b ≠ a := fun z => by subst z; rw [hw] at hb; cases hb
    rw [upd_ne ne]; exact hu
  · have ne : b ≠ a := fun z => by
      subst z
      rw [hw] at hb
      obtain ⟨t1, t2⟩ := t
      simp at hb
    rw [upd_ne ne]; exact hu
theorem Rep.upd_off {a : Addr} {o : HO} {t : Tag} (hw : w a = some t) {d : D} {v : V} (h : Rep T H w d v) : Rep T (upd H a o) w d v :=
  Rep.frame (fun b u hb hu => ⟨by
    have ne : b ≠ a := fun z => by subst z; rw [hw] at hb; cases hb
    rw [upd_ne ne]; exact hu, hb⟩) d v h
end
end Y
set_option Elab.async false
set_option maxRecDepth 100000
set_option linter.all false
/-! The value layer: reading and changing owned trees. -/
namespace Y
open PySem L2
open PySem.Spec PyProof.Rows
section
variable (T : Tb) (X : Cx)
/-- an expression that touches nothing: its value by the slots alone -/
def EX (e : Expr) (g : Env → Option D) : Prop := ∀ r w σ H ρ Q, SR T r w σ H ρ → (∃ d, g ρ = some d ∧ ∀ v, Rep T H w d v → Q v H) → sE X e σ H Q
/-- a place of an owned tree -/
def PL (e : Expr) (f : Env → Option (Nat × List Nat)) : Prop := ∀ r w σ H ρ Q, SR T r w σ H ρ → (∃ i π o1, f ρ = some (i, π) ∧ getE ρ i π = some o1 ∧ ∀ v, PlAt T H w σ ρ i π o1 v → Q v H) → sE X e σ H Q
end
def mex (g : Env → Option D) : M D := fun ρ => match g ρ with
  | some d => .ok (d, ρ)
  | none => .stuck
section
variable {T : Tb} {X : Cx} {W : WX} {a b : Expr} {ga gb : Env → Option D} {fa : Env → Option (Nat × List Nat)} {pos : Pos}
theorem ev_ex (h : EX T X a ga) : EV T X W a (mex ga) := by
  intro r w σ H ρ Q s p
  unfold mex at p
  split at p
  · rename_i d e
    exact h r w σ H ρ Q s ⟨d, e, fun v rep => p.ret s rep⟩
  · exact p.elim
def xvar (i : Nat) : Env → Option D := fun ρ => match ρ[i]? with
  | some (some (.val d)) => some d
  | _ => none
theorem ex_var {i : Nat} {x : Str} (hN : X.N[i]? = some x := by rfl) (hv : Vis X.env.scope x := by first | exact Or.inl rfl | exact Or.inr (Or.inl rfl) | exact Or.inr (Or.inr rfl))
    (hd : (x == ("__debug__" : Str)) = false := by decide) (hcd : (x == ("__classdict__" : Str)) = false := by decide) : EX T X (.Name x pos) (xvar i) := by
  intro r w σ H ρ Q s ⟨d, e, k⟩
  unfold xvar at e
  split at e
  · rename_i d' e'
    cases e
    obtain ⟨v, e1, ow⟩ := s.sl i _ e'
    exact sE_of (pe_var hN hv hd hcd) ⟨v, e1, k v (Owns.val.mp ow)⟩
  · cases e
theorem ex_int {i j} : EX T X (.Constant (.int i) j pos) (fun _ => some (.int i)) := fun _ _ _ _ _ _ _ ⟨d, e, k⟩ => sE_of pe_int (k _ (by cases e; exact Rep.int_.mpr rfl))
theorem ex_bl {i j} : EX T X (.Constant (.bool i) j pos) (fun _ => some (.bl i)) := fun _ _ _ _ _ _ _ ⟨d, e, k⟩ => sE_of pe_bl (k _ (by cases e; exact Rep.bl_.mpr rfl))
theorem ex_non {j} : EX T X (.Constant .none j pos) (fun _ => some .non) := fun _ _ _ _ _ _ _ ⟨d, e, k⟩ => sE_of pe_non (k _ (by cases e; exact Rep.non_.mpr rfl))
theorem ex_str {i j} : EX T X (.Constant (.str i) j pos) (fun _ => some (.str i)) := fun _ _ _ _ _ _ _ ⟨d, e, k⟩ => sE_of pe_str (k _ (by cases e; exact Rep.str_.mpr rfl))
/-- rules that touch nothing -/
def X1D (T : Tb) (rr : V → Hp → VK → Prop) (g : D → Option D) : Prop := ∀ w H a d x Q, g a = some d → Rep T H w a x → (∀ v, Rep T H w d v → Q v H) → rr x H Q
def X2D (T : Tb) (rr : R2) (g : D → D → Option D) : Prop := ∀ w H a b d x y Q, g a b = some d → Rep T H w a x → Rep T H w b y → (∀ v, Rep T H w d v → Q v H) → rr x y H Q
def XLD (T : Tb) (rr : List V → Hp → VK → Prop) (g : List D → Option D) : Prop := ∀ w H as d xs Q, g as = some d → RepL T H w as xs → (∀ v, Rep T H w d v → Q v H) → rr xs H Q
def x2 (g : D → D → Option D) (ga gb : Env → Option D) : Env → Option D := fun ρ => (ga ρ).bind fun a => (gb ρ).bind fun b => g a b
def x1 (g : D → Option D) (ga : Env → Option D) : Env → Option D := fun ρ => (ga ρ).bind g
theorem x2_some {g : D → D → Option D} {ρ : Env} {d : D} (e : x2 g ga gb ρ = some d) : ∃ a b, ga ρ = some a ∧ gb ρ = some b ∧ g a b = some d := by
  simp only [x2, Option.bind_eq_some_iff] at e
  obtain ⟨a, e1, b, e2, e3⟩ := e
  exact ⟨a, b, e1, e2, e3⟩
theorem ex_bin {op : Operator} {rr : R2} {g : D → D → Option D} (ho : OpR X (binaryOp op) rr) (hd : X2D T rr g) (ha : EX T X a ga) (hb : EX T X b gb) : EX T X (.BinOp a op b pos) (x2 g ga gb) := by
  intro r w σ H ρ Q s ⟨d, e, k⟩
  obtain ⟨da, db, e1, e2, e3⟩ := x2_some e
  refine sE_of (pe_op ho pe_s pe_s) ?_
  refine ha r w σ H ρ _ s ⟨da, e1, fun x q1 => ?_⟩
  refine hb r w σ H ρ _ s ⟨db, e2, fun y q2 => ?_⟩
  exact hd w H da db d x y Q e3 q1 q2 k
theorem ex_cmp {op : CmpOp} {rr : R2} {g : D → D → Option D} (ho : OpR X (compareOp op) rr) (hd : X2D T rr g) (ha : EX T X a ga) (hb : EX T X b gb) (hm : behindInMarks op b = false) : EX T X (.Compare a [op] [b] pos) (x2 g ga gb) := by
  intro r w σ H ρ Q s ⟨d, e, k⟩
  obtain ⟨da, db, e1, e2, e3⟩ := x2_some e
  refine sE_of (pe_cmpR ho pe_s pe_s hm) ?_
  refine ha r w σ H ρ _ s ⟨da, e1, fun x q1 => ?_⟩
  refine hb r w σ H ρ _ s ⟨db, e2, fun y q2 => ?_⟩
  exact hd w H da db d x y Q e3 q1 q2 k
theorem ex_ix {rr : R2} {g : D → D → Option D} (ho : IxR X rr) (hd : X2D T rr g) (ha : EX T X a ga) (hb : EX T X b gb) (hs : PlainIx b) : EX T X (.Subscript a b pos) (x2 g ga gb) := by
  intro r w σ H ρ Q s ⟨d, e, k⟩
  obtain ⟨da, db, e1, e2, e3⟩ := x2_some e
  refine sE_of (pe_ix ho pe_s pe_s hs) ?_
  refine ha r w σ H ρ _ s ⟨da, e1, fun x q1 => ?_⟩
  refine hb r w σ H ρ _ s ⟨db, e2, fun y q2 => ?_⟩
  exact hd w H da db d x y Q e3 q1 q2 k
theorem ex_un {op : UnaryOp} {rr : V → Hp → VK → Prop} {g : D → Option D} (ho : UnR X (unaryOp op) rr) (hd : X1D T rr g) (ha : EX T X a ga) : EX T X (.UnaryOp op a pos) (x1 g ga) := by
  intro r w σ H ρ Q s ⟨d, e, k⟩
  simp only [x1, Option.bind_eq_some_iff] at e
  obtain ⟨da, e1, e2⟩ := e
  refine sE_of (pe_un ho pe_s) ?_
  refine ha r w σ H ρ _ s ⟨da, e1, fun x q1 => ?_⟩
  exact hd w H da d x Q e2 q1 k
theorem ex_callB1 {id : String} {x : Str} {q : Pos} {rr : List V → Hp → VK → Prop} {g : List D → Option D} (hc : CallR X (.builtin id) rr) (hd : XLD T rr g) (hg : Gl X x) (hm : X.mg x = none) (hv : bootBuiltins x = some (.builtin id)) (ha : EX T X a ga)
    (hn : x ≠ "__name__" := by decide) (hdb : (x == ("__debug__" : Str)) = false := by decide) (he : starEach [a] X.env = (false, eval a X.env) :: starEach [] X.env := by rfl) (hpl : (backTo pos (starEach [] X.env)).any (·.1) = false := by rfl) :
    EX T X (.Call (.Name x q) [a] [] pos) (x1 (fun d => g [d]) ga) := by
  intro r w σ H ρ Q s ⟨d, e, k⟩
  simp only [x1, Option.bind_eq_some_iff] at e
  obtain ⟨da, e1, e2⟩ := e
  refine sE_of (pe_callB hc hg hm hv (pa_cons pe_s pa_nil he) hn hdb he hpl) ?_
  refine ha r w σ H ρ _ s ⟨da, e1, fun x q1 => ?_⟩
  exact hd w H [da] d [x] Q e2 (.one q1) k
def addI : D → D → Option D
  | .int i, .int j => some (.int (i + j))
  | _, _ => none
theorem addI_ok : X2D T (rI0 fun i j => .int (i + j)) addI := by
  intro w H a b d x y Q e ha hb k
  unfold addI at e
  split at e
  · cases e; rw [Rep.int_] at ha hb; subst ha; subst hb
    exact ⟨_, _, rfl, rfl, k _ (Rep.int_.mpr rfl)⟩
  · cases e
theorem subX : X2D T (rI0 fun i j => .int (i - j)) subD := by
  intro w H a b d x y Q e ha hb k
  unfold subD at e
  split at e
  · cases e; rw [Rep.int_] at ha hb; subst ha; subst hb
    exact ⟨_, _, rfl, rfl, k _ (Rep.int_.mpr rfl)⟩
  · cases e
theorem negX : X1D T (rU fun i => .int (-i)) negD := by
  intro w H a d x Q e ha k
  unfold negD at e
  split at e
  · cases e; rw [Rep.int_] at ha; subst ha
    exact ⟨_, rfl, k _ (Rep.int_.mpr rfl)⟩
  · cases e
theorem mulX : X2D T rMulA mulD := by
  intro w H a b d x y Q e ha hb k
  unfold mulD at e
  split at e
  · rw [Rep.int_] at ha hb; subst ha; subst hb
    split at e
    · rename_i i j hz; cases e
      have q := k _ (Rep.int_.mpr rfl)
      simp only [mulOk, Bool.or_eq_true, decide_eq_true_eq] at hz
      rcases hz with (hz | hz) | hz
      · exact .inl ⟨_, _, rfl, rfl, .inl ⟨by omega, by omega⟩, q⟩
      · exact .inl ⟨_, _, rfl, rfl, .inr ⟨by omega, by omega⟩, q⟩
      · exact .inr ⟨_, _, rfl, rfl, hz, q⟩
    · cases e
  · cases e
theorem cmpX {p : Int → Int → Bool} : X2D T (rI0 fun i j => .bl (p i j)) (cmpI p) := by
  intro w H a b d x y Q e ha hb k
  unfold cmpI at e
  split at e
  · cases e; rw [Rep.int_] at ha hb; subst ha; subst hb
    exact ⟨_, _, rfl, rfl, k _ (Rep.bl_.mpr rfl)⟩
  · cases e
theorem ixX : X2D T (rIx T.K) ixD := by
  intro w H a b d x y Q e ha hb k
  unfold ixD at e
  split at e
  · rename_i i
    rw [Rep.int_] at hb; subst hb
    simp only [Option.bind_eq_some_iff] at e
    obtain ⟨ds, e1, e2⟩ := e
    obtain ⟨p, vs, rfl, hs, hl⟩ := ha.seq e1
    obtain ⟨v, e3, r⟩ := hl.atI e2
    rcases hs with hs | hs
    · exact .inl ⟨p, vs, i, v, rfl, rfl, hs, e3, k _ r⟩
    · exact .inr (.inl ⟨p, vs, i, v, rfl, rfl, hs, e3, k _ r⟩)
  · cases e
theorem lenX : XLD T (fun xs H Q => ∃ x n, xs = [x] ∧ LenV T.K x H n ∧ Q (.int n) H) lenD := by
  intro w H as d xs Q e h k
  unfold lenD at e
  split at e
  · rename_i d'
    simp only [RepL] at h
    obtain ⟨v, ws, rfl, r, rfl⟩ := h
    refine ⟨v, ?_⟩
    cases d' with
    | str x =>
      rw [Rep.str_] at r; subst r
      dsimp only at e
      split at e
      · rename_i hz; cases e; exact ⟨_, rfl, ⟨hz, rfl⟩, k _ (Rep.int_.mpr rfl)⟩
      · cases e
    | nd kk ds =>
      simp only [Option.map_eq_some_iff] at e
      obtain ⟨es, e, rfl⟩ := e
      obtain ⟨a, vs, rfl, hs, hl⟩ := r.seq e
      refine ⟨_, rfl, ?_, k _ (Rep.int_.mpr rfl)⟩
      rcases hs with hs | hs
      · exact .inl ⟨vs, hs, hl.length⟩
      · exact .inr ⟨vs, hs, hl.length⟩
    | non => simp [D.seq] at e
    | bl _ => simp [D.seq] at e
    | int _ => simp [D.seq] at e
  · cases e
/-! ### places -/
def pvar (i : Nat) : Env → Option (Nat × List Nat) := fun _ => some (i, [])
theorem pl_var {i : Nat} {x : Str} (hN : X.N[i]? = some x := by rfl) (hv : Vis X.env.scope x := by first | exact Or.inl rfl | exact Or.inr (Or.inl rfl) | exact Or.inr (Or.inr rfl))
    (hd : (x == ("__debug__" : Str)) = false := by decide) (hcd : (x == ("__classdict__" : Str)) = false := by decide) : PL T X (.Name x pos) (pvar i) := by
  intro r w σ H ρ Q s ⟨i', π, o1, e, eg, k⟩
  cases e
  obtain ⟨v, p⟩ := s.place eg
  obtain ⟨o, u, eo, eu, ow, e2, rf⟩ := id p.ex
  simp only [RefAt] at rf
  subst rf
  exact sE_of (pe_var hN hv hd hcd) ⟨u, eu, k u p⟩
theorem getP_app : ∀ (π : List Nat) (o : O) (j : Nat), getP o (π ++ [j]) = (getP o π).bind fun o1 => getP o1 [j]
  | [], o, j => by simp only [List.nil_append, getP, Option.bind_some]
  | i :: π, .val d, j => by simp [getP]
  | i :: π, .nd k os, j => by
    simp only [List.cons_append, getP]
    split
    · rw [getP_app π]
    · rfl
theorem RefAt.app : ∀ (π : List Nat) {H : Hp} {o : O} {u v : V} {k : Kd} {os : List O} {j : Nat} {a : Addr} {vs : List V} {dx : Addr} {uj : V} {oj : O}, RefAt T H o u π v → getP o π = some (.nd k os) → v = .ref a → H a = some (k.ho T dx vs) → k.fit T vs.length → vs[j]? = some uj → os[j]? = some oj → RefAt T H o u (π ++ [j]) uj
  | [], H, o, u, v, k, os, j, a, vs, dx, uj, oj, r, e, ev, ha, hk, eu, eo => by
    simp only [RefAt] at r
    simp only [getP, Option.some.injEq] at e
    subst e; subst r; subst ev
    simp only [List.nil_append, RefAt]
    exact ⟨a, vs, dx, oj, uj, rfl, ha, hk, eo, eu, rfl⟩
  | i :: π, H, .val d, u, v, k, os, j, a, vs, dx, uj, oj, r, e, ev, ha, hk, eu, eo => by simp [getP] at e
  | i :: π, H, .nd k' os', u, v, k, os, j, a, vs, dx, uj, oj, r, e, ev, ha, hk, eu, eo => by
    simp only [RefAt] at r
    obtain ⟨a', vs', dx', o', u', e1, e2, e3, e4, e5, e6⟩ := r
    simp only [getP, e4] at e
    simp only [List.cons_append, RefAt]
    exact ⟨a', vs', dx', o', u', e1, e2, e3, e4, e5, RefAt.app π e6 e ev ha hk eu eo⟩
/-- a part of a place -/
theorem PlAt.kid {w : Own} {σ : L2.St} {H : Hp} {ρ : Env} {i j : Nat} {π : List Nat} {k : Kd} {os : List O} {oj : O} {v : V} (p : PlAt T H w σ ρ i π (.nd k os) v) (eo : os[j]? = some oj) :
    ∃ a vs dx uj, v = .ref a ∧ w a = some (.slot i, π) ∧ H a = some (k.ho T dx vs) ∧ k.fit T vs.length ∧ k ≠ .tup ∧ OwnsL T H w os vs (.slot i, π) 0 ∧ vs[j]? = some uj ∧ PlAt T H w σ ρ i (π ++ [j]) oj uj := by
  obtain ⟨a, vs, dx, rfl, hw, ha, hk, nt, hl⟩ := Owns.node.mp p.owns
  obtain ⟨uj, eu, how⟩ := hl.get eo
  obtain ⟨o, u, e1, e2, ow, e3, rf⟩ := p.ex
  refine ⟨a, vs, dx, uj, rfl, hw, ha, hk, nt, hl, eu, o, u, e1, e2, ow, ?_, rf.app π e3 rfl ha hk eu eo⟩
  rw [getP_app, e3]
  simp only [Option.bind_some, getP, eo]
theorem PlAt.node {w : Own} {σ : L2.St} {H : Hp} {ρ : Env} {i : Nat} {π : List Nat} {k : Kd} {os : List O} {v : V} (p : PlAt T H w σ ρ i π (.nd k os) v) :
    ∃ a vs dx, v = .ref a ∧ w a = some (.slot i, π) ∧ H a = some (k.ho T dx vs) ∧ k.fit T vs.length ∧ k ≠ .tup ∧ OwnsL T H w os vs (.slot i, π) 0 := Owns.node.mp p.owns
/-- the place of a part: of an object's field, of a list's item -/
def pkid (f : Env → Option (Nat × List Nat)) (j : Nat) : Env → Option (Nat × List Nat) := fun ρ => (f ρ).map fun p => (p.1, p.2 ++ [j])
def atP (ρ : Env) (p : Nat × List Nat) : Option O := getE ρ p.1 p.2
def pix (f : Env → Option (Nat × List Nat)) (g : Env → Option D) : Env → Option (Nat × List Nat) := fun ρ => (f ρ).bind fun p => match atP ρ p, g ρ with
  | some (.nd .lst os), some (.int i) => (ixN os.length i).map fun j => (p.1, p.2 ++ [j])
  | _, _ => none
theorem getE_app {ρ : Env} {i j : Nat} {π : List Nat} {o : O} (e : getE ρ i (π ++ [j]) = some o) : ∃ k os, getE ρ i π = some (.nd k os) ∧ os[j]? = some o := by
  unfold getE at e ⊢
  split at e
  · rename_i o' eo
    rw [getP_app] at e
    cases q : getP o' π with
    | none => rw [q] at e; cases e
    | some o2 =>
      rw [q] at e
      cases o2 with
      | val d => simp [getP] at e
      | nd k os =>
        refine ⟨k, os, rfl, ?_⟩
        simp only [Option.bind_some, getP] at e
        split at e
        · rename_i o3 e3; rw [e3]; exact e
        · cases e
  · cases e
theorem pl_ix (hK : X.K = T.K) (ha : PL T X a fa) (hb : EX T X b gb) (hs : PlainIx b) : PL T X (.Subscript a b pos) (pix fa gb) := by
  intro r w σ H ρ Q s ⟨i, π, o1, e, eg, k⟩
  unfold pix at e
  simp only [Option.bind_eq_some_iff] at e
  obtain ⟨⟨i', π'⟩, e1, e⟩ := e
  split at e
  · rename_i os n e2 e3
    simp only [Option.map_eq_some_iff] at e
    obtain ⟨j, e4, e5⟩ := e
    cases e5
    obtain ⟨k', os', e6, e7⟩ := getE_app eg
    have e2 : getE ρ i π' = some (.nd .lst os) := e2
    rw [e2] at e6; cases e6
    refine sE_of (pe_ix ix_list pe_s pe_s hs) ?_
    refine ha r w σ H ρ _ s ⟨i, π', _, e1, e2, fun v p => ?_⟩
    refine hb r w σ H ρ _ s ⟨_, e3, fun y q => ?_⟩
    rw [Rep.int_] at q; subst q
    obtain ⟨t, vs, dx, uj, rfl, hw, hh, hk, nt, hl, eu, p'⟩ := p.kid e7
    refine ⟨t, vs, n, uj, rfl, rfl, SqL.of hh, ?_, k uj p'⟩
    unfold L2.atI
    rw [← hl.length, e4]
    exact eu
  · cases e
/-- an item of a list in its place: a value -/
def xpix (f : Env → Option (Nat × List Nat)) (g : Env → Option D) : Env → Option D := fun ρ => (f ρ).bind fun p => match atP ρ p, g ρ with
  | some (.nd .lst os), some (.int i) => (L2.atI os i).bind fun o => match o with
    | .val d => some d
    | _ => none
  | _, _ => none
theorem ex_pix (hK : X.K = T.K) (ha : PL T X a fa) (hb : EX T X b gb) (hs : PlainIx b) : EX T X (.Subscript a b pos) (xpix fa gb) := by
  intro r w σ H ρ Q s ⟨d, e, k⟩
  unfold xpix at e
  simp only [Option.bind_eq_some_iff] at e
  obtain ⟨⟨i', π'⟩, e1, e⟩ := e
  split at e
  · rename_i os n e2 e3
    simp only [Option.bind_eq_some_iff] at e
    obtain ⟨o, e4, e5⟩ := e
    split at e5
    · cases e5
      have e2 : getE ρ i' π' = some (.nd .lst os) := e2
      refine sE_of (pe_ix ix_list pe_s pe_s hs) ?_
      refine ha r w σ H ρ _ s ⟨i', π', _, e1, e2, fun v p => ?_⟩
      refine hb r w σ H ρ _ s ⟨_, e3, fun y q => ?_⟩
      rw [Rep.int_] at q; subst q
      unfold L2.atI at e4
      simp only [Option.bind_eq_some_iff] at e4
      obtain ⟨j, e6, e7⟩ := e4
      obtain ⟨t, vs, dx, uj, rfl, hw, hh, hk, nt, hl, eu, p'⟩ := p.kid e7
      refine ⟨t, vs, n, uj, rfl, rfl, SqL.of hh, ?_, k uj (Owns.val.mp p'.owns)⟩
      unfold L2.atI
      rw [← hl.length, e6]
      exact eu
    · cases e5
  · cases e
def xplen (f : Env → Option (Nat × List Nat)) : Env → Option D := fun ρ => (f ρ).bind fun p => match atP ρ p with
  | some (.nd .lst os) => some (.int os.length)
  | _ => none
theorem ex_plen {q : Pos} (hK : X.K = T.K) (hg : Gl X "len") (hm : X.mg "len" = none) (ha : PL T X a fa) (he : starEach [a] X.env = (false, eval a X.env) :: starEach [] X.env := by rfl) (hpl : (backTo pos (starEach [] X.env)).any (·.1) = false := by rfl) :
    EX T X (.Call (.Name "len" q) [a] [] pos) (xplen fa) := by
  intro r w σ H ρ Q s ⟨d, e, k⟩
  unfold xplen at e
  simp only [Option.bind_eq_some_iff] at e
  obtain ⟨⟨i', π'⟩, e1, e⟩ := e
  split at e
  · rename_i os e2
    cases e
    have e2 : getE ρ i' π' = some (.nd .lst os) := e2
    refine sE_of (pe_callB call_len hg hm PySem.boot_len (pa_cons pe_s pa_nil he) (by decide) (by decide) he hpl) ?_
    refine ha r w σ H ρ _ s ⟨i', π', _, e1, e2, fun v p => ?_⟩
    obtain ⟨t, vs, dx, rfl, hw, hh, hk, nt, hl⟩ := p.node
    exact ⟨_, _, rfl, .inl ⟨vs, SqL.of hh, hl.length⟩, k _ (Rep.int_.mpr rfl)⟩
  · cases e
/-- fields of an owned object -/
def pfld (f : Env → Option (Nat × List Nat)) (cn j : Nat) : Env → Option (Nat × List Nat) := fun ρ => (f ρ).bind fun p => match atP ρ p with
  | some (.nd (.obj c) _) => if c = cn then some (p.1, p.2 ++ [j]) else none
  | _ => none
theorem pl_fld {f : Str} {cn i : Nat} (hK : X.K = T.K) (hc : Cls T.K (T.C cn)) (hn : NoAttr T.K (T.C cn) f) (hnd : (T.fl cn).Nodup) (hf : (T.fl cn)[i]? = some f) (ha : PL T X a fa)
    (hb : attributeBase a f X.env (eval a X.env) = eval a X.env := by rfl) : PL T X (.Attribute a f pos) (pfld fa cn i) := by
  intro r w σ H ρ Q s ⟨i', π, o1, e, eg, k⟩
  unfold pfld at e
  simp only [Option.bind_eq_some_iff] at e
  obtain ⟨⟨i2, π2⟩, e1, e⟩ := e
  split at e
  · rename_i c os e3
    split at e
    · rename_i ec
      subst ec
      cases e
      have e3 : getE ρ i2 π2 = some (.nd (.obj c) os) := e3
      obtain ⟨kk, os', e5, e4⟩ := getE_app eg
      rw [e3] at e5; cases e5
      refine sE_of (pe_fld pe_s hb) ?_
      refine ha r w σ H ρ _ s ⟨i2, π2, _, e1, e3, fun v p => ?_⟩
      obtain ⟨t, vs, dx, uj, rfl, hw, hh, hk, nt, hl, eu, p'⟩ := p.kid e4
      exact ⟨t, _, dx, _, uj, rfl, hh, by rw [hK]; exact hc, by rw [hK]; exact hn, zip_lookup hnd hf eu, k uj p'⟩
    · cases e
  · cases e
/-- .. that is a value -/
def xpfld (f : Env → Option (Nat × List Nat)) (cn j : Nat) : Env → Option D := fun ρ => (f ρ).bind fun p => match atP ρ p with
  | some (.nd (.obj c) os) => if c = cn then (match os[j]? with
    | some (.val d) => some d
    | _ => none) else none
  | _ => none
theorem ex_pfld {f : Str} {cn i : Nat} (hK : X.K = T.K) (hc : Cls T.K (T.C cn)) (hn : NoAttr T.K (T.C cn) f) (hnd : (T.fl cn).Nodup) (hf : (T.fl cn)[i]? = some f) (ha : PL T X a fa)
    (hb : attributeBase a f X.env (eval a X.env) = eval a X.env := by rfl) : EX T X (.Attribute a f pos) (xpfld fa cn i) := by
  intro r w σ H ρ Q s ⟨d, e, k⟩
  unfold xpfld at e
  simp only [Option.bind_eq_some_iff] at e
  obtain ⟨⟨i2, π2⟩, e1, e⟩ := e
  split at e
  · rename_i c os e3
    split at e
    · rename_i ec
      subst ec
      split at e
      · rename_i d' e4
        cases e
        have e3 : getE ρ i2 π2 = some (.nd (.obj c) os) := e3
        refine sE_of (pe_fld pe_s hb) ?_
        refine ha r w σ H ρ _ s ⟨i2, π2, _, e1, e3, fun v p => ?_⟩
        obtain ⟨t, vs, dx, uj, rfl, hw, hh, hk, nt, hl, eu, p'⟩ := p.kid e4
        exact ⟨t, _, dx, _, uj, rfl, hh, by rw [hK]; exact hc, by rw [hK]; exact hn, zip_lookup hnd hf eu, k uj (Owns.val.mp p'.owns)⟩
      · cases e
    · cases e
  · cases e
/-- .. of a value -/
theorem ex_fld {f : Str} {cn i : Nat} (hK : X.K = T.K) (hc : Cls T.K (T.C cn)) (hn : NoAttr T.K (T.C cn) f) (hnd : (T.fl cn).Nodup) (hf : (T.fl cn)[i]? = some f) (ha : EX T X a ga)
    (hb : attributeBase a f X.env (eval a X.env) = eval a X.env := by rfl) : EX T X (.Attribute a f pos) (x1 (fldD cn i) ga) := by
  intro r w σ H ρ Q s ⟨d, e, k⟩
  simp only [x1, Option.bind_eq_some_iff] at e
  obtain ⟨da, e1, eg⟩ := e
  refine sE_of (pe_fld pe_s hb) ?_
  refine ha r w σ H ρ _ s ⟨da, e1, fun x q1 => ?_⟩
  unfold fldD at eg
  split at eg
  · split at eg
    · rename_i e
      subst e
      obtain ⟨t, vs, rfl, at', hv⟩ := Rep.node.mp q1
      obtain ⟨v, ev, rv⟩ := hv.get eg
      obtain ⟨_, ⟨_, dx, _, hh⟩ | ⟨e, _⟩ | ⟨e, _⟩⟩ := at'
      · exact ⟨t, T.C _, dx, _, v, rfl, hh rfl, by rw [hK]; exact hc, by rw [hK]; exact hn, zip_lookup hnd hf ev, k v rv⟩
      · cases e
      · cases e
    · cases eg
  · cases eg
/-! ### lists changed in their places -/
theorem OwnsL.snoc {w : Own} {H : Hp} {os : List O} {vs : List V} {t : Tag} {o : O} {v : V} (h : OwnsL T H w os vs t 0) (q : Owns T H w o v (t.1, t.2 ++ [os.length])) : OwnsL T H w (os ++ [o]) (vs ++ [v]) t 0 := by
  have hl := h.length
  refine OwnsL.of_get (by simp [hl]) fun i o' v' e1 e2 => ?_
  rw [Nat.zero_add]
  by_cases hi : i < os.length
  · rw [List.getElem?_append_left hi] at e1
    rw [List.getElem?_append_left (by omega)] at e2
    obtain ⟨v2, ev, ow⟩ := h.get e1
    rw [e2] at ev; cases ev
    rw [Nat.zero_add] at ow
    exact ow
  · have h2 : os.length ≤ i := by omega
    rw [List.getElem?_append_right h2] at e1
    rw [List.getElem?_append_right (by omega)] at e2
    rw [← hl] at e2
    cases hz : i - os.length with
    | zero =>
      rw [hz] at e1 e2
      simp at e1 e2
      subst e1; subst e2
      have : i = os.length := by omega
      subst this
      exact q
    | succ n => rw [hz] at e1; simp at e1
theorem OwnsL.setV {w : Own} {H : Hp} {os : List O} {vs : List V} {t : Tag} {d : D} {v : V} {j : Nat} (h : OwnsL T H w os vs t 0) (q : Rep T H w d v) : OwnsL T H w (os.set j (.val d)) (vs.set j v) t 0 := by
  have hl := h.length
  refine OwnsL.of_get (by simp [hl]) fun i o' v' e1 e2 => ?_
  rw [Nat.zero_add]
  rw [List.getElem?_set] at e1 e2
  by_cases hij : j = i
  · subst hij
    rw [if_pos rfl] at e1 e2
    rw [hl] at e1
    split at e1
    · rename_i hh
      rw [if_pos hh] at e2
      cases e1; cases e2
      exact Owns.val.mpr q
    · cases e1
  · rw [if_neg hij] at e1 e2
    obtain ⟨v2, ev, ow⟩ := h.get e1
    rw [e2] at ev; cases ev
    rw [Nat.zero_add] at ow
    exact ow
theorem OwnsL.dropLast {w : Own} {H : Hp} {os : List O} {vs : List V} {t : Tag} (h : OwnsL T H w os vs t 0) : OwnsL T H w os.dropLast vs.dropLast t 0 := by
  have hl := h.length
  refine OwnsL.of_get (by simp [hl]) fun i o' v' e1 e2 => ?_
  rw [List.getElem?_dropLast] at e1 e2
  split at e1
  · rename_i h1
    rw [if_pos (by omega)] at e2
    obtain ⟨v2, ev, ow⟩ := h.get e1
    rw [e2] at ev; cases ev
    exact ow
  · cases e1
/-- the end of a change: the list at the place is another one -/
theorem Post.put {α β : Type} {r : Nat} {w : Own} {H : Hp} {σ : L2.St} {R : Hp → Own → α → β → Prop} {c : α} {ρ : Env} {Q : β → Hp → Prop} {i : Nat} {π : List Nat} {k : Kd} {os os' : List O} {a : Addr} {vs vs' : List V} {dx : Addr} {k' : Kd}
    (h : Post T W w H σ r R (.ok (c, putE ρ i π (.nd k' os'))) Q) (s : SR T r w σ H ρ) (p : PlAt T H w σ ρ i π (.nd k os) (.ref a)) (hw : w a = some (.slot i, π)) (ha : H a = some (k.ho T dx vs)) (hk : k'.fit T vs'.length) (nt : k' ≠ .tup)
    (hl : OwnsL T H w os' vs' (.slot i, π) 0) {b : β} (q : R (upd H a (k'.ho T dx vs')) w c b) : Q b (upd H a (k'.ho T dx vs')) := by
  obtain ⟨s', e⟩ := s.putL (k' := k') p hw ha hk nt (hl.upd_off hw)
  exact h b _ w s' q e
theorem PlAt.root {w : Own} {σ : L2.St} {H : Hp} {ρ : Env} {i : Nat} {o1 : O} {v : V} (p : PlAt T H w σ ρ i [] o1 v) : σ[i]? = some (some v) := by
  obtain ⟨o, u, e1, e2, ow, e3, rf⟩ := p.ex
  simp only [RefAt] at rf
  subst rf
  exact e2
theorem tyV_lst {K : PySem.W.Frag} {H : Hp} {a : Addr} {vs : List V} (h : H a = some (.lst vs)) : tyV K "list" (.ref a) H := .inl ⟨rfl, _, .inl (.inl h)⟩
/-- what a list's method does to the parts, and its answer -/
abbrev LG := List O → List D → Option (List O × D)
def LM (T : Tb) (rr : V → List V → Hp → VK → Prop) (g : LG) : Prop := ∀ (w : Own) (H : Hp) (t : Tag) (os : List O) (vs : List V) (a : Addr) (ds : List D) (xs : List V) (os' : List O) (d : D) (Q : VK), H a = some (.lst vs) → OwnsL T H w os vs t 0 → RepL T H w ds xs →
  g os ds = some (os', d) → (∀ vs' v, OwnsL T H w os' vs' t 0 → Rep T H w d v → Q v (upd H a (.lst vs'))) → rr (.ref a) xs H Q
def upP (g : LG) (p : Nat × List Nat) (ds : List D) : M D := fun ρ => match atP ρ p with
  | some (.nd .lst os) => (match g os ds with
    | some (os', d) => .ok (d, putE ρ p.1 p.2 (.nd .lst os'))
    | none => .stuck)
  | _ => .stuck
def isL (ρ : Env) (p : Nat × List Nat) : Bool := match atP ρ p with
  | some (.nd .lst _) => true
  | _ => false
theorem isL_some {ρ : Env} {p : Nat × List Nat} (h : isL ρ p = true) : ∃ os, getE ρ p.1 p.2 = some (.nd .lst os) := by
  unfold isL at h
  split at h
  · rename_i os e; exact ⟨os, e⟩
  · cases h
theorem Post.upP {rr : V → List V → Hp → VK → Prop} {g : LG} (hg : LM T rr g) {r : Nat} {w : Own} {σ : L2.St} {H : Hp} {ρ : Env} {i : Nat} {π : List Nat} {ds : List D} {xs : List V} {Q : VK} {v : V} {o1 : O} (s : SR T r w σ H ρ) (h : Post T W w H σ r (Rep T) (upP g (i, π) ds ρ) Q)
    (p : PlAt T H w σ ρ i π o1 v) (q : RepL T H w ds xs) : rr v xs H Q := by
  unfold Y.upP at h
  have eg : getE ρ i π = some o1 := by
    obtain ⟨o, u, e1, e2, ow, e3, rf⟩ := p.ex
    unfold getE; rw [e1]; exact e3
  split at h
  · rename_i os e
    have e : getE ρ i π = some (.nd .lst os) := e
    rw [eg] at e; cases e
    split at h
    · rename_i os' d e2
      obtain ⟨a, vs, dx, rfl, hw, ha, hk, nt, hl⟩ := p.node
      refine hg w H (.slot i, π) os vs a ds xs os' d Q ha hl q e2 fun vs' v' hl' rep => ?_
      exact h.put (k := .lst) (k' := .lst) (dx := dx) s p hw ha trivial (fun z => by cases z) hl' (rep.upd_off hw)
    · exact h.elim
  · exact h.elim
/-- x.m(e, ..), x a name -/
def mlmN (g : LG) (i : Nat) (f : M (List D)) : M D := fun ρ => if isL ρ (i, []) = true then mbind f (fun ds => upP g (i, []) ds) ρ else .stuck
theorem ev_lmN {i : Nat} {x name : Str} {e : Expr} {es : List Expr} {fs : M (List D)} {px apos cpos : Pos} {id : String} {rr : V → List V → Hp → VK → Prop} {g : LG} (slot : Slot "list" name id) (hty : typeOf (.builtin id) = pure (.type "method_descriptor")) (hm : MtR X id rr) (hg : LM T rr g)
    (he : AV T X W (e :: es) fs) (hN : X.N[i]? = some x := by rfl) (hv : Vis X.env.scope x := by first | exact Or.inl rfl | exact Or.inr (Or.inl rfl) | exact Or.inr (Or.inr rfl))
    (hd : (x == ("__debug__" : Str)) = false := by decide) (hcd : (x == ("__classdict__" : Str)) = false := by decide)
    (hfew : ((backTo cpos (starEach (e :: es) X.env)).all (fun x => !x.1) && (backToKw cpos (keywordEach [] X.env)).all (fun x => x.1.isSome)
      && decide ((e :: es).length + ([] : List Keyword).length + (if ([] : List Keyword).isEmpty then 0 else 1) < 30)) = true := by rfl)
    (hline : (apos.endLine == cpos.line) = true := by rfl) (hs : starEach (e :: es) X.env = (false, eval e X.env) :: starEach es X.env := by rfl) (hplain : (backTo cpos (starEach es X.env)).any (·.1) = false := by rfl) :
    EV T X W (.Call (.Attribute (.Name x px) name apos) (e :: es) [] cpos) (mlmN g i fs) := by
  intro r w σ H ρ Q s p
  unfold mlmN at p
  split at p
  · rename_i hL
    obtain ⟨os0, e0⟩ := isL_some hL
    obtain ⟨v, pl⟩ := s.place e0
    obtain ⟨a, vs, dx, rfl, hw, ha, hk, nt, hl⟩ := pl.node
    refine sE_of (pe_bm PySem.F.plainAttrs_list slot hty hm (pe_var hN hv hd hcd) pa_s rfl hfew hline hs hplain) ?_
    refine ⟨.ref a, pl.root, tyV_lst ha, ?_⟩
    refine he.run r w σ H ρ _ s (p.bind fun ds ρ1 xs H1 w1 s1 q1 e1 p1 => ?_)
    have e2 : ∃ o1, getE ρ1 i [] = some o1 := by
      cases q : getE ρ1 i [] with
      | some o => exact ⟨o, rfl⟩
      | none =>
        have : upP g (i, []) ds ρ1 = .stuck := by unfold upP atP; rw [q]
        rw [this] at p1; exact p1.elim
    obtain ⟨o1, e2⟩ := e2
    obtain ⟨v', pl1⟩ := s1.place e2
    have := pl.root.symm.trans pl1.root
    cases this
    exact Post.upP hg s1 p1 pl1 q1
  · exact p.elim
/-- arguments that touch nothing -/
def XA (T : Tb) (X : Cx) (es : List Expr) (g : Env → Option (List D)) : Prop := ∀ r w σ H ρ Q, SR T r w σ H ρ → (∃ ds, g ρ = some ds ∧ ∀ vs, RepL T H w ds vs → Q vs H) → sA X es σ H Q
theorem xa_nil : XA T X [] (fun _ => some []) := fun _ _ _ _ _ _ _ ⟨_, e, k⟩ => sA_of pa_nil (k _ (by cases e; exact .nil))
def xcons (ga : Env → Option D) (gs : Env → Option (List D)) : Env → Option (List D) := fun ρ => (ga ρ).bind fun d => (gs ρ).map fun ds => d :: ds
theorem xa_cons {es : List Expr} {gs : Env → Option (List D)} (ha : EX T X a ga) (hr : XA T X es gs) (hs : starEach (a :: es) X.env = (false, eval a X.env) :: starEach es X.env := by rfl) : XA T X (a :: es) (xcons ga gs) := by
  intro r w σ H ρ Q s ⟨ds, e, k⟩
  simp only [xcons, Option.bind_eq_some_iff, Option.map_eq_some_iff] at e
  obtain ⟨d, e1, ds', e2, rfl⟩ := e
  refine sA_of (pa_cons pe_s pa_s hs) ?_
  refine ha r w σ H ρ _ s ⟨d, e1, fun v q1 => ?_⟩
  exact hr r w σ H ρ _ s ⟨ds', e2, fun vs q2 => k _ (.cons q1 q2)⟩
def mlm (g : LG) (f : Env → Option (Nat × List Nat)) (gs : Env → Option (List D)) : M D := fun ρ => match f ρ, gs ρ with
  | some p, some ds => if isL ρ p = true then upP g p ds ρ else .stuck
  | _, _ => .stuck
theorem ev_lm {name : Str} {e : Expr} {es : List Expr} {gs : Env → Option (List D)} {apos cpos : Pos} {id : String} {rr : V → List V → Hp → VK → Prop} {g : LG} (slot : Slot "list" name id) (hty : typeOf (.builtin id) = pure (.type "method_descriptor")) (hm : MtR X id rr) (hg : LM T rr g)
    (ha : PL T X a fa) (he : XA T X (e :: es) gs) (hbase : attributeBase a name X.env (eval a X.env) = eval a X.env := by rfl)
    (hfew : ((backTo cpos (starEach (e :: es) X.env)).all (fun x => !x.1) && (backToKw cpos (keywordEach [] X.env)).all (fun x => x.1.isSome)
      && decide ((e :: es).length + ([] : List Keyword).length + (if ([] : List Keyword).isEmpty then 0 else 1) < 30)) = true := by rfl)
    (hline : (apos.endLine == cpos.line) = true := by rfl) (hs : starEach (e :: es) X.env = (false, eval e X.env) :: starEach es X.env := by rfl) (hplain : (backTo cpos (starEach es X.env)).any (·.1) = false := by rfl) :
    EV T X W (.Call (.Attribute a name apos) (e :: es) [] cpos) (mlm g fa gs) := by
  intro r w σ H ρ Q s p
  unfold mlm at p
  split at p
  · rename_i pp ds ep es'
    obtain ⟨i, π⟩ := pp
    split at p
    · rename_i hL
      obtain ⟨os0, e0⟩ := isL_some hL
      refine sE_of (pe_bm PySem.F.plainAttrs_list slot hty hm pe_s pa_s hbase hfew hline hs hplain) ?_
      refine ha r w σ H ρ _ s ⟨i, π, _, ep, e0, fun v pl => ?_⟩
      obtain ⟨t, vs, dx, rfl, hw, ht, hk, nt, hl⟩ := pl.node
      refine ⟨tyV_lst ht, ?_⟩
      exact he r w σ H ρ _ s ⟨ds, es', fun xs q => Post.upP hg s p pl q⟩
    · exact p.elim
  · exact p.elim
theorem ev_lm0 {name : Str} {apos cpos : Pos} {id : String} {rr : V → List V → Hp → VK → Prop} {g : LG} (slot : Slot "list" name id) (hty : typeOf (.builtin id) = pure (.type "method_descriptor")) (hm : MtR X id rr) (hg : LM T rr g)
    (ha : PL T X a fa) (hbase : attributeBase a name X.env (eval a X.env) = eval a X.env := by rfl) (hline : (apos.endLine == cpos.line) = true := by rfl) :
    EV T X W (.Call (.Attribute a name apos) [] [] cpos) (mlm g fa fun _ => some []) := by
  intro r w σ H ρ Q s p
  unfold mlm at p
  split at p
  · rename_i pp ds ep es'
    obtain ⟨i, π⟩ := pp
    cases es'
    split at p
    · rename_i hL
      obtain ⟨os0, e0⟩ := isL_some hL
      refine sE_of (pe_bm0 PySem.F.plainAttrs_list slot hty hm pe_s hbase hline) ?_
      refine ha r w σ H ρ _ s ⟨i, π, _, ep, e0, fun v pl => ?_⟩
      obtain ⟨t, vs, dx, rfl, hw, ht, hk, nt, hl⟩ := pl.node
      exact ⟨tyV_lst ht, Post.upP hg s p pl .nil⟩
    · exact p.elim
  · exact p.elim
/-! the methods -/
def gApp : LG := fun os ds => match ds with
  | [d] => if os.length < sizeLine then some (os ++ [.val d], .non) else none
  | _ => none
theorem gApp_ok : LM T rAppend gApp := by
  intro w H t os vs a ds xs os' d Q ha hl q e k
  unfold gApp at e
  split at e
  · split at e
    · rename_i hz
      cases e
      simp only [RepL] at q
      obtain ⟨v, _, rfl, rv, rfl⟩ := q
      exact ⟨a, vs, v, rfl, rfl, ha, by rw [← hl.length]; exact hz, k _ _ (hl.snoc (Owns.val.mpr rv)) (Rep.non_.mpr rfl)⟩
    · cases e
  · cases e
def gPop : LG := fun os ds => match ds, os.getLast? with
  | [], some (.val d) => some (os.dropLast, d)
  | _, _ => none
theorem gPop_ok : LM T rPop gPop := by
  intro w H t os vs a ds xs os' d Q ha hl q e k
  unfold gPop at e
  split at e
  · rename_i d' eo
    cases e
    simp only [RepL] at q
    subst q
    rw [List.getLast?_eq_getElem?] at eo
    obtain ⟨v, ev, ow⟩ := hl.get eo
    exact ⟨a, vs, v, rfl, rfl, ha, by rw [← hl.length]; exact ev, k _ _ hl.dropLast (Owns.val.mp ow)⟩
  · cases e
theorem OwnsL.appV {w : Own} {H : Hp} {t : Tag} {es : List D} {us : List V} : ∀ {os : List O} {vs : List V} {j : Nat}, OwnsL T H w os vs t j → RepL T H w es us → OwnsL T H w (os ++ es.map .val) (vs ++ us) t j
  | [], vs, j, h, q => by simp only [OwnsL] at h; subst h; simpa using ownsL_vals.mpr q
  | o :: os, vs, j, h, q => by
    simp only [OwnsL] at h
    obtain ⟨v, ws, rfl, ow, h⟩ := h
    simp only [List.cons_append, OwnsL]
    exact ⟨v, _, rfl, ow, OwnsL.appV h q⟩
def gExt : LG := fun os ds => match ds with
  | [.nd .lst es] => if os.length + es.length ≤ sizeLine then some (os ++ es.map .val, .non) else none
  | _ => none
theorem gExt_ok : LM T rExtend gExt := by
  intro w H t os vs a ds xs os' d Q ha hl q e k
  unfold gExt at e
  split at e
  · split at e
    · rename_i hz
      cases e
      simp only [RepL] at q
      obtain ⟨v, _, rfl, rv, rfl⟩ := q
      obtain ⟨b, us, rfl, hb, hu⟩ := Rep.node.mp rv
      exact ⟨a, b, vs, us, rfl, rfl, ha, hb.lst, by rw [← hl.length, ← hu.length]; exact hz, k _ _ (hl.appV hu) (Rep.non_.mpr rfl)⟩
    · cases e
  · cases e
end
end Y
set_option Elab.async false
set_option maxRecDepth 100000
set_option linter.all false
/-! The value layer: statements. -/
namespace Y
open PySem L2
open PySem.Spec PyProof.Rows
inductive Fl where
  | nx (ρ : Env) | bk (ρ : Env) | ct (ρ : Env) | rt (o : O) (ρ : Env)
  | er (c : Nat) (ds : List D) (ρ : Env) | stuck
abbrev MS := Env → Fl
section
variable (T : Tb) (X : Cx) (W : WX)
def PostS (r : Nat) (w : Own) (H : Hp) (D : Ends) : Fl → Prop
  | .nx ρ => ∀ σ' H' w', SR T r w' σ' H' ρ → Evo w H w' H' → D.nx σ' H'
  | .bk ρ => ∀ σ' H' w', SR T r w' σ' H' ρ → Evo w H w' H' → D.bk σ' H'
  | .ct ρ => ∀ σ' H' w', SR T r w' σ' H' ρ → Evo w H w' H' → D.ct σ' H'
  | .rt o ρ => ∀ v σ' H' w', SR T (r + 1) w' σ' H' ρ → Owns T H' w' o v (.tmp r, []) → Evo w H w' H' → D.rt v H'
  | .er c ds ρ => ∀ r' cls dd σ' H' w', SR T r' w' σ' H' ρ → Exc T H' w' c ds cls dd → Evo w H w' H' → W cls dd σ' H'
  | .stuck => False
def SV (st : Stmt) (m : MS) : Prop := ∀ r w σ H ρ D, SR T r w σ H ρ → PostS T W r w H D (m ρ) → sS X st D σ H
def BV (st : List Stmt) (m : MS) : Prop := ∀ r w σ H ρ D, SR T r w σ H ρ → PostS T W r w H D (m ρ) → sB X st D σ H
end
section
variable {T : Tb} {X : Cx} {W : WX}
theorem PostS.evo {r : Nat} {w w' : Own} {H H' : Hp} {D : Ends} {f : Fl} (h : PostS T W r w H D f) (e : Evo w H w' H') : PostS T W r w' H' D f := by
  cases f with
  | nx ρ => exact fun σ1 H1 w1 s e1 => h σ1 H1 w1 s (e.trans e1)
  | bk ρ => exact fun σ1 H1 w1 s e1 => h σ1 H1 w1 s (e.trans e1)
  | ct ρ => exact fun σ1 H1 w1 s e1 => h σ1 H1 w1 s (e.trans e1)
  | rt o ρ => exact fun v σ1 H1 w1 s q e1 => h v σ1 H1 w1 s q (e.trans e1)
  | er c ds ρ => exact fun r' cls dd σ1 H1 w1 s q e1 => h r' cls dd σ1 H1 w1 s q (e.trans e1)
  | stuck => exact h
/-- what follows an expression's answer -/
def after {α : Type} (f : M α) (k : α → MS) : MS := fun ρ => match f ρ with
  | .ok (a, ρ') => k a ρ'
  | .er c ds ρ' => .er c ds ρ'
  | .stuck => .stuck
theorem PostS.after {α β : Type} {r r1 : Nat} {w : Own} {H : Hp} {σ : L2.St} {ρ : Env} {D : Ends} {R : Hp → Own → α → β → Prop} {f : M α} {k : α → MS} {Q : β → Hp → Prop} (h : PostS T W r w H D (Y.after f k ρ))
    (q : ∀ a ρ1 b H1 w1, SR T r1 w1 σ H1 ρ1 → R H1 w1 a b → Evo w H w1 H1 → PostS T W r w1 H1 D (k a ρ1) → Q b H1) : Post T W w H σ r1 R (f ρ) Q := by
  unfold Y.after at h
  cases e : f ρ with
  | ok p =>
    obtain ⟨a, ρ1⟩ := p
    rw [e] at h
    exact fun b H1 w1 s1 q1 ev => q a ρ1 b H1 w1 s1 q1 ev (h.evo ev)
  | er c ds ρ1 => rw [e] at h; exact fun r cls dd H1 w1 s1 x ev => h r cls dd σ H1 w1 s1 x ev
  | stuck => rw [e] at h; exact h
/-! ### blocks -/
def sskip : MS := .nx
def sseq (m n : MS) : MS := fun ρ => match m ρ with
  | .nx ρ' => n ρ'
  | x => x
variable {st : Stmt} {rest : List Stmt} {m n : MS} {e a b c : Expr} {pos : Pos}
theorem bv_nil : BV T X W [] sskip := fun r w σ H ρ D s p => sB_of pss_nil (p σ H w s .refl)
theorem bv_cons (h1 : SV T X W st m) (h2 : BV T X W rest n) : BV T X W (st :: rest) (sseq m n) := by
  intro r w σ H ρ D s p
  refine sB_of (pss_cons ps_s pb_s) ?_
  refine h1 r w σ H ρ _ s ?_
  unfold sseq at p
  revert p
  cases m ρ with
  | nx ρ1 => exact fun p σ1 H1 w1 s1 e1 => h2 r w1 σ1 H1 ρ1 D s1 (PostS.evo p e1)
  | bk ρ1 => exact fun p => p
  | ct ρ1 => exact fun p => p
  | rt o ρ1 => exact fun p => p
  | er c ds ρ1 => exact fun p => p
  | stuck => exact fun p => p
theorem bv_one (h1 : SV T X W st m) : BV T X W [st] m := by
  intro r w σ H ρ D s p
  exact sB_of (pss_one ps_s) (h1 r w σ H ρ D s p)
theorem sv_pass : SV T X W (.Pass pos) sskip := fun r w σ H ρ D s p => sS_of ps_pass (p σ H w s .refl)
theorem sv_break : SV T X W (.Break pos) .bk := fun r w σ H ρ D s p => sS_of ps_break (p σ H w s .refl)
theorem sv_continue : SV T X W (.Continue pos) .ct := fun r w σ H ρ D s p => sS_of ps_continue (p σ H w s .refl)
def sdrop {α : Type} (f : M α) : MS := after f fun _ => .nx
theorem sv_expr {f : M D} (he : EV T X W e f) (hs : swapsWith e none pos.line X.env = pure false := by rfl) : SV T X W (.Expr e pos) (sdrop f) := by
  intro r w σ H ρ D s p
  refine sS_of (ps_expr pe_s hs) ?_
  exact he r w σ H ρ _ s (p.after fun d ρ1 v H1 w1 s1 q1 e1 p1 => p1 σ H1 w1 s1 .refl)
/-! ### names are stored -/
theorem SR.setV {r : Nat} {w : Own} {σ : L2.St} {H : Hp} {ρ : Env} {d : D} {v : V} (s : SR T r w σ H ρ) (q : Rep T H w d v) (i : Nat) (hB : T.B i = none) : SR T r w (σ.set i (some v)) H (ρ.set i (some (.val d))) where
  ln := by rw [List.length_set, List.length_set]; exact s.ln
  sl := fun j o e => by
    rw [List.getElem?_set] at e
    by_cases hij : i = j
    · subst hij
      rw [if_pos rfl] at e
      split at e
      · rename_i h
        cases e
        exact ⟨v, by rw [List.getElem?_set_self (by rw [s.ln]; exact h)], Owns.val.mpr q⟩
      · cases e
    · rw [if_neg hij] at e
      obtain ⟨u, e1, ow⟩ := s.sl j o e
      exact ⟨u, by rw [List.getElem?_set_ne hij]; exact e1, ow⟩
  tm := s.tm
  dm := s.dm
  fx := fun j u e => by
    have ne : i ≠ j := fun z => by subst z; rw [hB] at e; cases e
    rw [List.getElem?_set_ne ne]; exact s.fx j u e
  pp := s.pp
/-- the temporary r goes to the slot i -/
def mvIn (r i : Nat) (w : Own) : Own := fun a => match w a with
  | some (.tmp k, π) => if k = r then some (.slot i, π) else some (.tmp k, π)
  | t => t
theorem mvIn_none {r i : Nat} {w : Own} {a : Addr} (h : w a = none) : mvIn r i w a = none := by unfold mvIn; rw [h]
theorem mvIn_tmp {r i : Nat} {w : Own} {a : Addr} {π : List Nat} (h : w a = some (.tmp r, π)) : mvIn r i w a = some (.slot i, π) := by unfold mvIn; rw [h]; exact if_pos rfl
theorem mvIn_ne {r i k : Nat} {w : Own} {a : Addr} {π : List Nat} (h : w a = some (.tmp k, π)) (hk : k ≠ r) : mvIn r i w a = some (.tmp k, π) := by unfold mvIn; rw [h]; exact if_neg hk
theorem mvIn_slot {r i j : Nat} {w : Own} {a : Addr} {π : List Nat} (h : w a = some (.slot j, π)) : mvIn r i w a = some (.slot j, π) := by unfold mvIn; rw [h]
theorem mvIn_some {r i : Nat} {w : Own} {a : Addr} {t : Tag} (h : mvIn r i w a = some t) : (∃ t', w a = some t') ∧ ∀ k π, t = (.tmp k, π) → w a = some (.tmp k, π) ∧ k ≠ r := by
  cases q : w a with
  | none => rw [mvIn_none q] at h; cases h
  | some t' =>
    obtain ⟨rt, π⟩ := t'
    cases rt with
    | slot j => rw [mvIn_slot q] at h; cases h; exact ⟨⟨_, rfl⟩, fun k π e => by cases e⟩
    | tmp k =>
      by_cases e : k = r
      · subst e; rw [mvIn_tmp q] at h; cases h; exact ⟨⟨_, rfl⟩, fun k π e => by cases e⟩
      · rw [mvIn_ne q e] at h; cases h; exact ⟨⟨_, rfl⟩, fun k π z => by cases z; exact ⟨rfl, e⟩⟩
theorem SR.setO {r : Nat} {w : Own} {σ : L2.St} {H : Hp} {ρ : Env} {o : O} {v : V} (s : SR T (r + 1) w σ H ρ) (q : Owns T H w o v (.tmp r, [])) (i : Nat) (hB : T.B i = none) : SR T r (mvIn r i w) (σ.set i (some v)) H (ρ.set i (some o)) where
  ln := by rw [List.length_set, List.length_set]; exact s.ln
  sl := fun j o' e => by
    rw [List.getElem?_set] at e
    by_cases hij : i = j
    · subst hij
      rw [if_pos rfl] at e
      split at e
      · rename_i h
        cases e
        exact ⟨v, by rw [List.getElem?_set_self (by rw [s.ln]; exact h)], Owns.frame (fun a u hw hu => ⟨hu, mvIn_none hw⟩) o v _ _ (fun a u π hw hu => ⟨hu, mvIn_tmp hw⟩) q⟩
      · cases e
    · rw [if_neg hij] at e
      obtain ⟨u, e1, ow⟩ := s.sl j o' e
      exact ⟨u, by rw [List.getElem?_set_ne hij]; exact e1, Owns.frame (fun a u hw hu => ⟨hu, mvIn_none hw⟩) o' u _ _ (fun a u π hw hu => ⟨hu, mvIn_slot hw⟩) ow⟩
  tm := fun a k π e => by
    obtain ⟨e1, e2⟩ := (mvIn_some e).2 k π rfl
    have := s.tm a k π e1
    omega
  dm := fun a t e => by obtain ⟨t', e'⟩ := (mvIn_some e).1; exact s.dm a t' e'
  fx := fun j u e => by
    have ne : i ≠ j := fun z => by subst z; rw [hB] at e; cases e
    rw [List.getElem?_set_ne ne]; exact s.fx j u e
  pp := T.pc _ _ _ _ (fun a u hw hu => ⟨hu, mvIn_none hw⟩) s.pp
theorem Evo.mvIn {r i : Nat} {w w' : Own} {H H' : Hp} (tm : ∀ a k π, w a = some (.tmp k, π) → k < r) (e : Evo w H w' H') : Evo w H (mvIn r i w') H' := fun a u hc hu => by
  obtain ⟨e1, e2⟩ := e a u hc hu
  refine ⟨e1, ?_⟩
  rcases hc with hc | ⟨k, π, hc⟩
  · rw [hc] at e2 ⊢; exact mvIn_none e2
  · rw [hc] at e2 ⊢; exact mvIn_ne e2 (Nat.ne_of_lt (tm a k π hc))
theorem PostS.after' {α β : Type} {r r1 : Nat} {w : Own} {H : Hp} {σ : L2.St} {ρ : Env} {D : Ends} {R : Hp → Own → α → β → Prop} {f : M α} {k : α → MS} {Q : β → Hp → Prop} (h : PostS T W r w H D (Y.after f k ρ))
    (q : ∀ a ρ1 b H1 w1, SR T r1 w1 σ H1 ρ1 → R H1 w1 a b → Evo w H w1 H1 → PostS T W r w H D (k a ρ1) → Q b H1) : Post T W w H σ r1 R (f ρ) Q := by
  unfold Y.after at h
  cases e : f ρ with
  | ok p =>
    obtain ⟨a, ρ1⟩ := p
    rw [e] at h
    exact fun b H1 w1 s1 q1 ev => q a ρ1 b H1 w1 s1 q1 ev h
  | er c ds ρ1 => rw [e] at h; exact fun r cls dd H1 w1 s1 x ev => h r cls dd σ H1 w1 s1 x ev
  | stuck => rw [e] at h; exact h
def sset (i : Nat) (f : M D) : MS := after f fun d ρ => .nx (ρ.set i (some (.val d)))
def ssetO (i : Nat) (f : M O) : MS := after f fun o ρ => .nx (ρ.set i (some o))
theorem sv_set {i : Nat} {x : Str} {f : M D} {pos' : Pos} (hN : X.N.Nodup) (hB : T.B i = none) (he : EV T X W e f) (hi : X.N[i]? = some x := by rfl) (hx : Loc X.env.scope x := by first | exact Or.inl rfl | exact Or.inr rfl) (hs : swapsWith e (some (.Name x pos')) pos.line X.env = pure false := by rfl)
    (hf : X.fn x = true ∨ X.env.scope.names.lookup x = some .local := by first | exact .inl rfl | exact .inr rfl) : SV T X W (.Assign [.Name x pos'] e pos) (sset i f) := by
  intro r w σ H ρ D s p
  refine sS_of (ps_set hN hi hx pe_s hs hf) ?_
  exact he r w σ H ρ _ s (p.after fun d ρ1 v H1 w1 s1 q1 e1 p1 => p1 _ H1 w1 (s1.setV q1 i hB) .refl)
theorem sv_setO {i : Nat} {x : Str} {f : M O} {pos' : Pos} (hN : X.N.Nodup) (hB : T.B i = none) (he : EO T X W e f) (hi : X.N[i]? = some x := by rfl) (hx : Loc X.env.scope x := by first | exact Or.inl rfl | exact Or.inr rfl) (hs : swapsWith e (some (.Name x pos')) pos.line X.env = pure false := by rfl)
    (hf : X.fn x = true ∨ X.env.scope.names.lookup x = some .local := by first | exact .inl rfl | exact .inr rfl) : SV T X W (.Assign [.Name x pos'] e pos) (ssetO i f) := by
  intro r w σ H ρ D s p
  refine sS_of (ps_set hN hi hx pe_s hs hf) ?_
  exact he r w σ H ρ _ s (p.after' fun o ρ1 v H1 w1 s1 q1 e1 p1 => p1 _ H1 _ (s1.setO q1 i hB) (e1.mvIn s.tm))
def sret (f : M O) : MS := after f .rt
theorem sv_ret {f : M O} (he : EO T X W e f) : SV T X W (.Return (some e) pos) (sret f) := by
  intro r w σ H ρ D s p
  refine sS_of (ps_ret pe_s) ?_
  exact he r w σ H ρ _ s (p.after' fun o ρ1 v H1 w1 s1 q1 e1 p1 => p1 v σ H1 w1 s1 q1 e1)
def sretN : MS := .rt (.val .non)
theorem sv_retN : SV T X W (.Return none pos) sretN := fun r w σ H ρ D s p => sS_of ps_retN (p _ σ H w (s.stay (fun _ _ h => ⟨h, rfl⟩) (fun a k π e => Nat.lt_succ_of_lt (s.tm a k π e)) s.dm) (Owns.val.mpr (Rep.non_.mpr rfl)) .refl)
def sif (c : M Bool) (m n : MS) : MS := after c fun b => if b = true then m else n
variable {gc : M Bool} {sa sb : List Stmt}
theorem sv_if (hc : TV T X W c gc) (ha : BV T X W sa m) (hb : BV T X W sb n) : SV T X W (.If c sa sb pos) (sif gc m n) := by
  intro r w σ H ρ D s p
  refine sS_of (ps_if pt_s pb_s pb_s) ?_
  refine hc r w σ H ρ _ s (p.after fun d ρ1 v H1 w1 s1 q1 e1 p1 => ?_)
  subst q1
  cases d with
  | true => exact ha r w1 σ H1 ρ1 D s1 p1
  | false => exact hb r w1 σ H1 ρ1 D s1 p1
/-! ### while -/
def fuel : Nat := 1000000000000
def loopW (c : M Bool) (b : MS) : Nat → MS
  | 0, _ => .stuck
  | n + 1, ρ => match c ρ with
    | .ok (true, ρ1) => (match b ρ1 with
      | .nx ρ2 => loopW c b n ρ2
      | .ct ρ2 => loopW c b n ρ2
      | .bk ρ2 => .nx ρ2
      | x => x)
    | .ok (false, ρ1) => .nx ρ1
    | .er k ds ρ1 => .er k ds ρ1
    | .stuck => .stuck
def swhile (c : M Bool) (b : MS) : MS := loopW c b fuel
theorem sv_while (hp : PassesOwn (model X.prog X.w) X.A X.env X.xe) (hc : TV T X W c gc) (hb : BV T X W sa m) : SV T X W (.While c sa [] pos) (swhile gc m) := by
  intro r w σ H ρ D s p
  refine sS_of (ps_while hp pt_s pb_s) ?_
  refine ⟨fun n σ H => ∃ w ρ, SR T r w σ H ρ ∧ PostS T W r w H D (loopW gc m n ρ), ⟨fuel, w, ρ, s, p⟩, ?_⟩
  rintro n σ H ⟨w, ρ, s, p⟩
  cases n with
  | zero => exact p.elim
  | succ n =>
    have p' : PostS T W r w H D (after gc (fun b ρ1 => if b = true then (match m ρ1 with
      | .nx ρ2 => loopW gc m n ρ2
      | .ct ρ2 => loopW gc m n ρ2
      | .bk ρ2 => .nx ρ2
      | x => x) else .nx ρ1) ρ) := by
      revert p
      unfold after
      simp only [loopW]
      cases gc ρ with
      | ok q =>
        obtain ⟨b, ρ1⟩ := q
        cases b <;> exact fun p => p
      | er k ds ρ1 => exact fun p => p
      | stuck => exact fun p => p
    refine hc r w σ H ρ _ s (p'.after fun b ρ1 b' H1 w1 s1 q1 e1 p1 => ?_)
    subst q1
    cases b with
    | false => exact p1 σ H1 w1 s1 .refl
    | true =>
      rw [if_pos rfl] at p1 ⊢
      refine ⟨fun σ' H' => ∃ w ρ, SR T r w σ' H' ρ ∧ PostS T W r w H' D (loopW gc m n ρ), fun σ' H' h => ⟨n, Nat.lt_succ_self n, h⟩, ?_⟩
      refine hb r w1 σ H1 ρ1 _ s1 ?_
      revert p1
      cases m ρ1 with
      | nx ρ2 => exact fun p σ2 H2 w2 s2 e2 => ⟨w2, ρ2, s2, PostS.evo p e2⟩
      | ct ρ2 => exact fun p σ2 H2 w2 s2 e2 => ⟨w2, ρ2, s2, PostS.evo p e2⟩
      | bk ρ2 => exact fun p σ2 H2 w2 s2 e2 => p σ2 H2 w2 s2 e2
      | rt o ρ2 => exact fun p => p
      | er k ds ρ2 => exact fun p => p
      | stuck => exact fun p => p
/-! ### targets, what is walked -/
def GV (T : Tb) (X : Cx) (tg : Expr) (bnd : D → Env → Option Env) : Prop := ∃ t, PG X tg t ∧ ∀ r w σ H ρ d v ρ1 Q, SR T r w σ H ρ → Rep T H w d v → bnd d ρ = some ρ1 → (∀ σ1, SR T r w σ1 H ρ1 → Q σ1 H) → t v σ H Q
def GsV (T : Tb) (X : Cx) (ts : List Expr) (bnd : List D → Env → Option Env) : Prop := ∃ t, PGs X ts t ∧ ∀ r w σ H ρ ds vs ρ1 Q, SR T r w σ H ρ → RepL T H w ds vs → bnd ds ρ = some ρ1 → (∀ σ1, SR T r w σ1 H ρ1 → Q σ1 H) → t vs σ H Q
def bname (i : Nat) : D → Env → Option Env := fun d ρ => some (ρ.set i (some (.val d)))
theorem gv_name {i : Nat} {x : Str} (hN : X.N.Nodup) (hB : T.B i = none) (hi : X.N[i]? = some x := by rfl) (hx : Loc X.env.scope x := by first | exact Or.inl rfl | exact Or.inr rfl) (hf : X.fn x = true ∨ X.env.scope.names.lookup x = some .local := by first | exact .inl rfl | exact .inr rfl) : GV T X (.Name x pos) (bname i) :=
  ⟨_, pg_name hN hi hx hf, fun r w σ H ρ d v ρ1 Q s q e k => by cases e; exact k _ (s.setV q i hB)⟩
def bnil : List D → Env → Option Env := fun ds ρ => match ds with
  | [] => some ρ
  | _ => none
def bcons (b : D → Env → Option Env) (bs : List D → Env → Option Env) : List D → Env → Option Env := fun ds ρ => match ds with
  | d :: ds => (b d ρ).bind fun ρ1 => bs ds ρ1
  | [] => none
theorem gsv_nil : GsV T X [] bnil := ⟨_, pgs_nil, fun r w σ H ρ ds vs ρ1 Q s q e k => by
  cases ds with
  | nil => cases e; simp only [RepL] at q; subst q; exact ⟨rfl, k σ s⟩
  | cons d ds => cases e⟩
theorem gsv_cons {tg : Expr} {ts : List Expr} {b : D → Env → Option Env} {bs : List D → Env → Option Env} (h1 : GV T X tg b) (h2 : GsV T X ts bs) (hs : (assignEach (tg :: ts) X.env).map (·.2) = assign tg X.env :: (assignEach ts X.env).map (·.2) := by rfl) : GsV T X (tg :: ts) (bcons b bs) := by
  obtain ⟨t, p1, k1⟩ := h1
  obtain ⟨u, p2, k2⟩ := h2
  refine ⟨_, pgs_cons p1 p2 hs, fun r w σ H ρ ds vs ρ1 Q s q e k => ?_⟩
  cases ds with
  | nil => cases e
  | cons d ds =>
    simp only [RepL] at q
    obtain ⟨v, ws, rfl, rv, q⟩ := q
    simp only [bcons, Option.bind_eq_some_iff] at e
    obtain ⟨ρ2, e1, e2⟩ := e
    exact ⟨v, ws, rfl, k1 r w σ H ρ d v ρ2 _ s rv e1 fun σ1 s1 => k2 r w σ1 H ρ2 ds ws ρ1 Q s1 q e2 k⟩
def btup (n : Nat) (bs : List D → Env → Option Env) : D → Env → Option Env := fun d ρ => match d with
  | .nd .tup ds => if ds.length = n then bs ds ρ else none
  | _ => none
theorem gv_tup {es : List Expr} {k n : Nat} {bs : List D → Env → Option Env} (hK : X.K = T.K) (hc : X.calm = true) (h : GsV T X es bs) (hn : (assignEach es X.env).length = n := by rfl) (hst : (assignEach es X.env).findIdx? (·.1) = none := by rfl) : GV T X (.Tuple es k pos) (btup n bs) := by
  obtain ⟨t, p1, k1⟩ := h
  refine ⟨_, pg_tup hc p1 hn hst, fun r w σ H ρ d v ρ1 Q s q e k => ?_⟩
  unfold btup at e
  split at e
  · split at e
    · rename_i hl
      obtain ⟨a, vs, rfl, ha, hv⟩ := Rep.node.mp q
      exact ⟨a, vs, rfl, by rw [hK]; exact ha.tup, by rw [← hv.length]; exact hl, k1 r w σ H ρ _ vs ρ1 Q s hv e k⟩
    · cases e
  · cases e
def sbind (b : D → Env → Option Env) (f : M D) : MS := after f fun d ρ => match b d ρ with
  | some ρ1 => .nx ρ1
  | none => .stuck
/-- a, b = e -/
theorem sv_asg {tg : Expr} {bb : D → Env → Option Env} {f : M D} (he : EV T X W e f) (hg : GV T X tg bb) (hs : swapsWithSole [tg] e pos.line X.env = pure false := by rfl) (hw : swappedStores [tg] e X.env = pure none := by rfl)
    (h1 : (assignEach [tg] X.env).map (·.2) = [assign tg X.env] := by rfl) : SV T X W (.Assign [tg] e pos) (sbind bb f) := by
  intro r w σ H ρ D s p
  obtain ⟨t, p1, k1⟩ := hg
  refine sS_of (ps_asg pe_s p1 hs hw h1) ?_
  refine he r w σ H ρ _ s (p.after fun d ρ1 v H1 w1 s1 q1 e1 p2 => ?_)
  split at p2
  · rename_i ρ2 e2
    exact k1 r w1 σ H1 ρ1 d v ρ2 _ s1 q1 e2 fun σ1 s2 => p2 σ1 H1 w1 s2 .refl
  · exact p2.elim
/-- a, b = x, y -/
def spar (i j : Nat) (f : M (List D)) : MS := after f fun ds ρ => match ds with
  | [a, b] => .nx ((ρ.set i (some (.val a))).set j (some (.val b)))
  | _ => .stuck
theorem sv_par {i j : Nat} {x y : Str} {f : M (List D)} {px py pt : Pos} {kt k2 pt2} (hc : X.calm = true) (hN : X.N.Nodup) (hij : i ≠ j) (hBi : T.B i = none) (hBj : T.B j = none) (ha : AV T X W [a, b] f)
    (hi : X.N[i]? = some x := by rfl) (hj : X.N[j]? = some y := by rfl) (hx : X.env.scope.names.lookup x = some .local := by rfl) (hy : X.env.scope.names.lookup y = some .local := by rfl)
    (hw : swappedStores [.Tuple [.Name x px, .Name y py] kt pt] (.Tuple [a, b] k2 pt2) X.env = pure (some [x, y]) := by rfl)
    (hs : swapsWithSole [.Tuple [.Name x px, .Name y py] kt pt] (.Tuple [a, b] k2 pt2) pos.line X.env = pure false := by rfl) :
    SV T X W (.Assign [.Tuple [.Name x px, .Name y py] kt pt] (.Tuple [a, b] k2 pt2) pos) (spar i j f) := by
  intro r w σ H ρ D s p
  refine sS_of (ps_par hc hN hi hj hij hx hy pa_s hw hs) ?_
  refine ha.run r w σ H ρ _ s (p.after fun ds ρ1 vs H1 w1 s1 q1 e1 p1 => ?_)
  cases ds with
  | nil => exact p1.elim
  | cons d ds =>
    cases ds with
    | nil => exact p1.elim
    | cons d2 ds =>
      cases ds with
      | cons _ _ => exact p1.elim
      | nil =>
        simp only [RepL] at q1
        obtain ⟨v, _, rfl, rv, u, _, rfl, ru, rfl⟩ := q1
        exact ⟨v, u, rfl, p1 _ H1 w1 ((s1.setV rv i hBi).setV ru j hBj) .refl⟩
/-- the turns of what is walked: the values ds one behind another -/
def WalkOk (T : Tb) (J : It) (ds : List D) (w1 : Own) (H1 : Hp) : Prop := ∀ i w H, Evo w1 H1 w H → Fr w H →
  (∀ d, ds[i]? = some d → J.go i H ∧ ∀ x H', J.yld i H x H' → Same H H' ∧ Rep T H' w d x) ∧ (ds.length ≤ i → J.stop i H)
def PostI (T : Tb) (W : WX) (r : Nat) (w : Own) (H : Hp) (σ : L2.St) (res : Res (List D × Env)) (R : It → Hp → Prop) : Prop := match res with
  | .ok (ds, ρ1) => ∀ J H1 w1, SR T r w1 σ H1 ρ1 → WalkOk T J ds w1 H1 → Evo w H w1 H1 → R J H1
  | .er c ds ρ1 => ∀ r' cls dd H1 w1, SR T r' w1 σ H1 ρ1 → Exc T H1 w1 c ds cls dd → Evo w H w1 H1 → W cls dd σ H1
  | .stuck => False
def IV (T : Tb) (X : Cx) (W : WX) (tg iter : Expr) (f : M (List D)) : Prop := ∃ wi, PI X tg iter wi ∧ ∀ r w σ H ρ R, SR T r w σ H ρ → PostI T W r w H σ (f ρ) R → wi σ H R
theorem PostI.bind {α : Type} {β : Type} {r r1 : Nat} {w : Own} {H : Hp} {σ : L2.St} {ρ : Env} {R1 : Hp → Own → α → β → Prop} {f : M α} {g : α → M (List D)} {R : It → Hp → Prop} {Q : β → Hp → Prop} (h : PostI T W r w H σ (mbind f g ρ) R)
    (q : ∀ a ρ1 b H1 w1, SR T r1 w1 σ H1 ρ1 → R1 H1 w1 a b → Evo w H w1 H1 → PostI T W r w1 H1 σ (g a ρ1) R → Q b H1) : Post T W w H σ r1 R1 (f ρ) Q := by
  unfold mbind at h
  cases e : f ρ with
  | ok p =>
    obtain ⟨a, ρ1⟩ := p
    rw [e] at h
    intro b H1 w1 s1 q1 ev
    refine q a ρ1 b H1 w1 s1 q1 ev ?_
    dsimp only at h
    revert h
    cases g a ρ1 with
    | ok p => exact fun h J H2 w2 s2 wk e2 => h J H2 w2 s2 wk (ev.trans e2)
    | er c ds ρ2 => exact fun h r' cls dd H2 w2 s2 x e2 => h r' cls dd H2 w2 s2 x (ev.trans e2)
    | stuck => exact fun h => h
  | er c ds ρ1 => rw [e] at h; exact h
  | stuck => rw [e] at h; exact h
/-- a list, a tuple -/
def iseq (f : M D) : M (List D) := mbind f fun d => mlift d.seq
theorem PI.or {tg iter : Expr} {w1 w2 : TI} (h1 : PI X tg iter w1) (h2 : PI X tg iter w2) : PI X tg iter (fun σ H R => w1 σ H R ∨ w2 σ H R) :=
  ⟨fun pins s σ H R I h => h.elim (h1.run pins s σ H R I) (h2.run pins s σ H R I)⟩
theorem iv_seq {tg : Expr} {f : M D} (hK : X.K = T.K) (ha : EV T X W a f) : IV T X W tg a (iseq f) := by
  refine ⟨_, PI.or (pi_list pe_s) (pi_tup pe_s), fun r w σ H ρ R s p => ?_⟩
  unfold iseq mbind at p
  cases ef : f ρ with
  | er c ds ρ1 => rw [ef] at p; exact .inl (ha r w σ H ρ _ s (by rw [ef]; exact p))
  | stuck => rw [ef] at p; exact p.elim
  | ok q =>
    obtain ⟨d, ρ1⟩ := q
    rw [ef] at p
    dsimp only at p
    have go : ∀ {Q : VK}, (∀ x H1 w1, SR T r w1 σ H1 ρ1 → Rep T H1 w1 d x → Evo w H w1 H1 → Q x H1) → sE X a σ H Q := fun {Q} h => ha r w σ H ρ Q s (by rw [ef]; exact h)
    have lists : ∀ ds : List D, d.seq = some ds → d.lsq = some ds → sE X a σ H (fun x H1 => ∃ a, x = .ref a ∧ (∃ xs, SqL X.K H1 a xs) ∧ R (Itl X.K a) H1) := fun ds es el => go fun x H1 w1 s1 q1 ev => by
      obtain ⟨t, vs, rfl, at', hv⟩ := q1.lsq el
      refine ⟨t, rfl, ⟨vs, by rw [hK]; exact at'⟩, ?_⟩
      rw [es] at p
      refine p _ H1 w1 s1 (fun i w2 H2 e2 _ => ?_) ev
      obtain ⟨t', vs', et, at2, hv2⟩ := (q1.evo e2).lsq el
      cases et
      refine ⟨fun d ed => ?_, fun hl => ⟨vs', by rw [hK]; exact at2, by rw [← hv2.length]; exact hl⟩⟩
      obtain ⟨v, e3, rv⟩ := hv2.get ed
      refine ⟨⟨vs', v, by rw [hK]; exact at2, e3⟩, fun x H' ⟨e4, k⟩ => ?_⟩
      subst e4
      have := k vs' (by rw [hK]; exact at2)
      rw [e3] at this; cases this
      exact ⟨.refl _, rv⟩
    cases d with
    | nd k ds =>
      cases k with
      | lst => exact .inl (lists ds rfl rfl)
      | scr => exact .inl (lists ds rfl rfl)
      | tup =>
        refine .inr (go fun x H1 w1 s1 q1 ev => ?_)
        obtain ⟨t, vs, rfl, at', hv⟩ := Rep.node.mp q1
        refine ⟨t, rfl, ⟨vs, by rw [hK]; exact at'.tup⟩, ?_⟩
        refine p _ H1 w1 s1 (fun i w2 H2 e2 _ => ?_) ev
        obtain ⟨t', vs', et, at2, hv2⟩ := Rep.node.mp (q1.evo e2)
        cases et
        refine ⟨fun d ed => ?_, fun hl => ⟨vs', by rw [hK]; exact at2.tup, by rw [← hv2.length]; exact hl⟩⟩
        obtain ⟨v, e3, rv⟩ := hv2.get ed
        refine ⟨⟨vs', v, by rw [hK]; exact at2.tup, e3⟩, fun x H' ⟨e4, k⟩ => ?_⟩
        subst e4
        have := k vs' (by rw [hK]; exact at2.tup)
        rw [e3] at this; cases this
        exact ⟨.refl _, rv⟩
      | dK ks => exact p.elim
      | dT ks => exact p.elim
      | obj c => exact p.elim
    | non => exact p.elim
    | bl _ => exact p.elim
    | int _ => exact p.elim
    | str _ => exact p.elim
/-- range(n), range(a, b) -/
def rng (lo hi : Int) : List D := (List.range (hi - lo).toNat).map fun (k : Nat) => D.int (lo + (k : Int))
def inR (i : Int) : Bool := decide (i.natAbs < 4611686018427387904)
def irng1 (f : M D) : M (List D) := mbind f fun d => match d with
  | .int n => if inR n = true then mret (rng 0 n) else mstuck
  | _ => mstuck
def irng2 (f g : M D) : M (List D) := mbind f fun d => mbind g fun e => match d, e with
  | .int m, .int n => if (inR m && inR n) = true then mret (rng m n) else mstuck
  | _, _ => mstuck
theorem rng_walk {lo hi : Int} {w1 : Own} {H1 : Hp} : WalkOk T (Itr lo (hi - lo).toNat) (rng lo hi) w1 H1 := fun i w H ev _ => by
  refine ⟨fun d ed => ?_, fun hl => ?_⟩
  · unfold rng at ed
    rw [List.getElem?_map] at ed
    cases q : (List.range (hi - lo).toNat)[i]? with
    | none => rw [q] at ed; cases ed
    | some k =>
      rw [q] at ed
      cases ed
      obtain ⟨h1, h2⟩ := List.getElem?_eq_some_iff.mp q
      rw [List.getElem_range] at h2
      subst h2
      rw [List.length_range] at h1
      exact ⟨h1, fun x H' ⟨e, e2⟩ => by subst e; subst e2; exact ⟨.refl _, Rep.int_.mpr rfl⟩⟩
  · unfold rng at hl
    rw [List.length_map, List.length_range] at hl
    exact hl
theorem iv_rng1 {tg : Expr} {f : M D} {q : Pos} (hg : Gl X "range") (hm : X.mg "range" = none) (ha : EV T X W a f) (hs : starEach [a] X.env = [(false, eval a X.env)] := by rfl) (h1 : starEach [a] X.env = (false, eval a X.env) :: starEach [] X.env := by rfl) : IV T X W tg (.Call (.Name "range" q) [a] [] pos) (irng1 f) := by
  refine ⟨_, pi_range1 hg hm (pa_cons pe_s pa_nil h1) hs, fun r w σ H ρ R s p => ?_⟩
  refine ha r w σ H ρ _ s (p.bind fun d ρ1 x H1 w1 s1 q1 ev p1 => ?_)
  cases d with
  | int n =>
    rw [Rep.int_] at q1; subst q1
    dsimp only at p1
    split at p1
    · rename_i hz
      simp only [inR, decide_eq_true_eq] at hz
      refine ⟨n, rfl, by omega, by omega, ?_⟩
      have := p1 (Itr 0 (n - 0).toNat) H1 w1 s1 rng_walk .refl
      rwa [Int.sub_zero] at this
    · exact p1.elim
  | non => exact p1.elim
  | bl _ => exact p1.elim
  | str _ => exact p1.elim
  | nd _ _ => exact p1.elim
theorem iv_rng2 {tg : Expr} {f g : M D} {q : Pos} (hg : Gl X "range") (hm : X.mg "range" = none) (ha : EV T X W a f) (hb : EV T X W b g) (hs : starEach [a, b] X.env = [(false, eval a X.env), (false, eval b X.env)] := by rfl) (hs2 : starEach [b] X.env = [(false, eval b X.env)] := by rfl)
    (h1 : starEach [a, b] X.env = (false, eval a X.env) :: starEach [b] X.env := by rfl) (h2 : starEach [b] X.env = (false, eval b X.env) :: starEach [] X.env := by rfl) : IV T X W tg (.Call (.Name "range" q) [a, b] [] pos) (irng2 f g) := by
  refine ⟨_, pi_range2 hg hm (pa_cons pe_s (pa_cons pe_s pa_nil h2) h1) hs hs2, fun r w σ H ρ R s p => ?_⟩
  refine ha r w σ H ρ _ s (p.bind fun d ρ1 x H1 w1 s1 q1 ev p1 => ?_)
  refine hb r w1 σ H1 ρ1 _ s1 (p1.bind fun d2 ρ2 y H2 w2 s2 q2 ev2 p2 => ?_)
  cases d with
  | int m =>
    cases d2 with
    | int n =>
      rw [Rep.int_] at q1 q2; subst q1; subst q2
      dsimp only at p2
      split at p2
      · rename_i hz
        simp only [inR, Bool.and_eq_true, decide_eq_true_eq] at hz
        exact ⟨m, n, rfl, ⟨by omega, by omega, by omega, by omega⟩, p2 _ H2 w2 s2 rng_walk .refl⟩
      · exact p2.elim
    | non => exact p2.elim
    | bl _ => exact p2.elim
    | str _ => exact p2.elim
    | nd _ _ => exact p2.elim
  | non => exact p2.elim
  | bl _ => exact p2.elim
  | str _ => exact p2.elim
  | nd _ _ => exact p2.elim
/-! ### for -/
def loopF (bb : D → Env → Option Env) (b : MS) : List D → MS
  | [], ρ => .nx ρ
  | d :: ds, ρ => match bb d ρ with
    | none => .stuck
    | some ρ1 => match b ρ1 with
      | .nx ρ2 => loopF bb b ds ρ2
      | .ct ρ2 => loopF bb b ds ρ2
      | .bk ρ2 => .nx ρ2
      | x => x
def sfor (f : M (List D)) (bb : D → Env → Option Env) (b : MS) : MS := after f fun ds => loopF bb b ds
theorem sv_for {tg iter : Expr} {f : M (List D)} {bb : D → Env → Option Env} (hp : PassesOwn (model X.prog X.w) X.A X.env X.xe) (hc : X.calm = true) (hi : IV T X W tg iter f) (hg : GV T X tg bb) (hb : BV T X W sa m)
    (hs : ∀ x, foldedSetIterable iter X.env x = pure x := by intro _; rfl) : SV T X W (.For tg iter sa [] pos) (sfor f bb m) := by
  intro r w0 σ0 H0 ρ0 D s0 p0
  obtain ⟨wi, pi, ki⟩ := hi
  obtain ⟨t, pg, kg⟩ := hg
  refine sS_of (ps_for hp hc pi pg pb_s hs) ?_
  refine ki r w0 σ0 H0 ρ0 _ s0 ?_
  unfold sfor Y.after at p0
  revert p0
  cases f ρ0 with
  | stuck => exact fun p => p
  | er c ds ρ1 => exact fun p r' cls dd H1 w1 s1 x ev => p r' cls dd σ0 H1 w1 s1 x ev
  | ok q =>
    obtain ⟨ds, ρ1⟩ := q
    intro p J H1 w1 s1 wk ev
    have p : PostS T W r w0 H0 D (loopF bb m ds ρ1) := p
    have p := PostS.evo p ev
    refine ⟨fun i n σ H => n = ds.length - i ∧ i ≤ ds.length ∧ ∃ w ρ, SR T r w σ H ρ ∧ Evo w1 H1 w H ∧ PostS T W r w H D (loopF bb m (ds.drop i) ρ), ⟨ds.length, by simp, Nat.zero_le _, w1, ρ1, s1, .refl, by simpa using p⟩, ?_⟩
    rintro i n σ H ⟨rfl, hi, w, ρ, s, e, p⟩
    obtain ⟨k1, k2⟩ := wk i w H e s.fr
    by_cases hlt : i < ds.length
    · obtain ⟨go, yld⟩ := k1 ds[i] (by simp [hlt])
      refine .inr ⟨go, fun σ' H' => ∃ w ρ, SR T r w σ' H' ρ ∧ Evo w1 H1 w H' ∧ PostS T W r w H' D (loopF bb m (ds.drop (i + 1)) ρ), fun σ' H' h => ⟨ds.length - (i + 1), by omega, rfl, hlt, h⟩, fun x H' y => ?_⟩
      obtain ⟨sm, rep⟩ := yld x H' y
      rw [List.drop_eq_getElem_cons hlt] at p
      simp only [loopF] at p
      split at p
      · exact p.elim
      · rename_i ρ2 e2
        refine kg r w σ H' ρ ds[i] x ρ2 _ (s.same sm) rep e2 fun σ1 s2 => ?_
        refine hb r w σ1 H' ρ2 _ s2 ?_
        have em : Evo w H w H' := .same sm
        revert p
        cases m ρ2 with
        | nx ρ3 => exact fun p σ3 H3 w3 s3 e3 => ⟨w3, ρ3, s3, (e.trans em).trans e3, PostS.evo p (em.trans e3)⟩
        | ct ρ3 => exact fun p σ3 H3 w3 s3 e3 => ⟨w3, ρ3, s3, (e.trans em).trans e3, PostS.evo p (em.trans e3)⟩
        | bk ρ3 => exact fun p σ3 H3 w3 s3 e3 => p σ3 H3 w3 s3 (em.trans e3)
        | rt o ρ3 => exact fun p v σ3 H3 w3 s3 q3 e3 => p v σ3 H3 w3 s3 q3 (em.trans e3)
        | er k ds ρ3 => exact fun p r' cls dd σ3 H3 w3 s3 x3 e3 => p r' cls dd σ3 H3 w3 s3 x3 (em.trans e3)
        | stuck => exact fun p => p
    · have ei : i = ds.length := by omega
      subst ei
      rw [List.drop_length] at p
      exact .inl ⟨k2 (Nat.le_refl _), p σ H w s .refl⟩
/-! ### o[i] = e -/
def gSet (os : List O) (i : Int) (d : D) : Option (List O) := (ixN os.length i).map fun j => os.set j (.val d)
def ssub (p : Env → Option (Nat × List Nat)) (gi : Env → Option D) (f : M D) : MS := after f fun d ρ => match p ρ, gi ρ with
  | some q, some (.int i) => (match atP ρ q with
    | some (.nd .lst os) => (match gSet os i d with
      | some os' => .nx (putE ρ q.1 q.2 (.nd .lst os'))
      | none => .stuck)
    | _ => .stuck)
  | _, _ => .stuck
theorem sv_sub {o i : Expr} {fo : Env → Option (Nat × List Nat)} {gi : Env → Option D} {f : M D} {p2 : Pos} (he : EV T X W e f) (ho : PL T X o fo) (hi : EX T X i gi)
    (ha : ∀ v, assign (.Subscript o i p2) X.env v = (do
      let ov ← holding [v] (eval o X.env)
      let iv ← holding [v, ov] (eval i X.env)
      standAt p2
      holding [v, ov, iv] (setItem ov iv v)
      release [v, ov, iv] []) := by intro _; rfl)
    (hs : swapsWithSole [.Subscript o i p2] e pos.line X.env = pure false := by rfl) (hw : swappedStores [.Subscript o i p2] e X.env = pure none := by rfl)
    (h1 : (assignEach [.Subscript o i p2] X.env).map (·.2) = [assign (.Subscript o i p2) X.env] := by rfl) : SV T X W (.Assign [.Subscript o i p2] e pos) (ssub fo gi f) := by
  intro r w σ H ρ D s p
  refine sS_of (ps_asg pe_s (pg_sub pe_s pe_s set_list ha) hs hw h1) ?_
  refine he r w σ H ρ _ s (p.after fun d ρ1 v H1 w1 s1 q1 e1 p1 => ?_)
  split at p1
  · rename_i q n ep ei
    split at p1
    · rename_i os eo
      split at p1
      · rename_i os' eg
        have eo : getE ρ1 q.1 q.2 = some (.nd .lst os) := eo
        refine ho r w1 σ H1 ρ1 _ s1 ⟨q.1, q.2, _, ep, eo, fun x pl => ?_⟩
        refine hi r w1 σ H1 ρ1 _ s1 ⟨_, ei, fun y q2 => ?_⟩
        rw [Rep.int_] at q2; subst q2
        obtain ⟨t, vs, dx, rfl, hw, ht, hk, nt, hl⟩ := pl.node
        simp only [gSet, Option.map_eq_some_iff] at eg
        obtain ⟨j, e2, rfl⟩ := eg
        refine ⟨t, vs, n, j, rfl, rfl, ht, by rw [← hl.length]; exact e2, ?_⟩
        have h3 := hl.setV (j := j) q1
        obtain ⟨s', ev⟩ := s1.putL (k := .lst) (k' := .lst) (dx := dx) (vs' := vs.set j v) (os' := os.set j (.val d)) pl hw ht trivial (fun z => by cases z) (h3.upd_off hw)
        exact p1 σ _ w1 s' ev
      · exact p1.elim
    · exact p1.elim
  · exact p1.elim
end
end Y
set_option Elab.async false
set_option maxRecDepth 100000
set_option linter.all false
/-! The value layer: defs and their calls. -/
namespace Y
open PySem L2
open PySem.Spec PyProof.Rows
/-! ### the fixed slots are no matter of what stands for what -/
structure Amb where
  B : Nat → Option V
  P : Own → Hp → Prop
  pc : ∀ w H w' H', (∀ a u, w a = none → H a = some u → H' a = some u ∧ w' a = none) → P w H → P w' H'
abbrev Tb.at (T : Tb) (B : Amb) : Tb := ⟨T.K, T.C, T.fl, B.B, B.P, B.pc⟩
abbrev Amb.no (B : Nat → Option V) : Amb := ⟨B, fun _ _ => True, fun _ _ _ _ _ h => h⟩
abbrev Tb.o (T : Tb) : Tb := T.at (.no fun _ => none)
abbrev Tb.am (T : Tb) : Amb := ⟨T.B, T.P, T.pc⟩
section
variable {T : Tb} {H : Hp} {w : Own} {B : Amb}
theorem At.toB {a : Addr} {vs : List V} {k : Kd} (h : At T H w a vs k) : At (T.at B) H w a vs k := by
  cases k <;> exact h
mutual
theorem Rep.toB : ∀ (d : D) (v : V), Rep T H w d v → Rep (T.at B) H w d v
  | .non, _, h => by simpa only [Rep] using h
  | .bl _, _, h => by simpa only [Rep] using h
  | .int _, _, h => by simpa only [Rep] using h
  | .str _, _, h => by simpa only [Rep] using h
  | .nd k ds, v, h => by
    simp only [Rep] at h ⊢
    obtain ⟨a, vs, e, ha, hl⟩ := h
    exact ⟨a, vs, e, ha.toB, RepL.toB ds vs hl⟩
theorem RepL.toB : ∀ (ds : List D) (vs : List V), RepL T H w ds vs → RepL (T.at B) H w ds vs
  | [], _, h => by simpa only [RepL] using h
  | d :: ds, vs, h => by
    simp only [RepL] at h ⊢
    obtain ⟨v, ws, e, r, hl⟩ := h
    exact ⟨v, ws, e, Rep.toB d v r, RepL.toB ds ws hl⟩
end
theorem ho_toB {dx : Addr} {vs : List V} (k : Kd) : k.ho T dx vs = k.ho (T.at B) dx vs := by cases k <;> rfl
theorem fit_toB {n : Nat} (k : Kd) : k.fit T n = k.fit (T.at B) n := by cases k <;> rfl
mutual
theorem Owns.toB : ∀ (o : O) (v : V) (t : Tag), Owns T H w o v t → Owns (T.at B) H w o v t
  | .val d, v, t, h => by simp only [Owns] at h ⊢; exact Rep.toB d v h
  | .nd k os, v, t, h => by
    simp only [Owns] at h ⊢
    obtain ⟨a, vs, dx, e, hw, ha, hk, nt, hl⟩ := h
    exact ⟨a, vs, dx, e, hw, by rw [← ho_toB]; exact ha, by rw [← fit_toB]; exact hk, nt, OwnsL.toB os vs t 0 hl⟩
theorem OwnsL.toB : ∀ (os : List O) (vs : List V) (t : Tag) (j : Nat), OwnsL T H w os vs t j → OwnsL (T.at B) H w os vs t j
  | [], _, _, _, h => by simpa only [OwnsL] using h
  | o :: os, vs, t, j, h => by
    simp only [OwnsL] at h ⊢
    obtain ⟨v, ws, e, ho, hl⟩ := h
    exact ⟨v, ws, e, Owns.toB o v _ ho, OwnsL.toB os ws t (j + 1) hl⟩
end
theorem Owns.ofB {o : O} {v : V} {t : Tag} (h : Owns (T.at B) H w o v t) : Owns T H w o v t := Owns.toB (T := T.at B) (B := T.am) o v t h
theorem Rep.ofB {d : D} {v : V} (h : Rep (T.at B) H w d v) : Rep T H w d v := Rep.toB (T := T.at B) (B := T.am) d v h
theorem Exc.toB {c : Nat} {ds : List D} {cls : Value} {dd : Option Addr} (h : Exc T H w c ds cls dd) : Exc (T.at B) H w c ds cls dd := by
  obtain ⟨e, d, fs, vs, e1, e2, e3, e4, e5, e6⟩ := h
  exact ⟨e, d, fs, vs, e1, e2, e3, RepL.toB _ _ e4, e5, e6⟩
theorem Exc.ofB {c : Nat} {ds : List D} {cls : Value} {dd : Option Addr} (h : Exc (T.at B) H w c ds cls dd) : Exc T H w c ds cls dd := Exc.toB (T := T.at B) (B := T.am) h
end
/-! ### a def's promise -/
/-- what a def is worth: its answer, and what the first argument has become (where it is changed in its place) -/
abbrev Mir := List O → Res (O × O)
structure Entry (T : Tb) (w : Own) (H : Hp) (os : List O) (vs : List V) : Prop where
  ln : os.length = vs.length
  ow : ∀ (j : Nat) (o : O) (v : V), os[j]? = some o → vs[j]? = some v → Owns T H w o v (.slot j, [])
  tm : ∀ a k π, w a = some (.tmp k, π) → k < 1
  dm : ∀ a t, w a = some t → H a ≠ none
def PostF (T : Tb) (b : Bool) (w : Own) (H : Hp) (vs : List V) (Q : VK) (E : XK) : Res (O × O) → Prop
  | .ok (o, o1) => ∀ v H' w', Owns T H' w' o v (.tmp 1, []) → (b = true → ∀ u, vs[0]? = some u → Owns T H' w' o1 u (.slot 0, [])) → Evo w H w' H' → (∀ a t, w' a = some t → H' a ≠ none) → Q v H'
  | .er c ds _ => ∀ cls dd H' w', Exc T H' w' c ds cls dd → Evo w H w' H' → (∀ a t, w' a = some t → H' a ≠ none) → E cls dd H'
  | .stuck => False
def spF (T : Tb) (n : Nat) (b : Bool) (F : Mir) : Sp := fun vs H Q E => vs.length = n ∧ ∃ os w, Entry T w H os vs ∧ PostF T b w H vs Q E (F os)
structure FnG (P : Program) (w : World) (K : PySem.W.Frag) (mg : Str → Option Value) (base : Heap) (k : Nat) (f : Addr) (fd : FuncData) (ps : List Str) (sp : Sp) : Prop where
  len : ∀ vs H Q E, sp vs H Q E → vs.length = ps.length
  run : ∀ (A : Around) (outer : List PySem.Env) (s : Shared) (H : Hp) (args : Args) (us : List Value) (vs : List V) (Q : VK) (E : XK), A.guards = some [] → Room k A → Env0 P w K mg base A outer s H → BindsTo s fd args (ps.zip us) → Vals vs us → sp vs H Q E →
    codeAny (model P w) A (.call (.ref f) args) (CR (L2.CX P w) outer P w H s Q E) s
theorem FnG.mono {P : Program} {w : World} {K : PySem.W.Frag} {mg : Str → Option Value} {base : Heap} {j k : Nat} {f : Addr} {fd : FuncData} {ps : List Str} {sp : Sp} (F : FnG P w K mg base j f fd ps sp) (h : j ≤ k) : FnG P w K mg base k f fd ps sp :=
  ⟨F.len, fun A outer s H args us vs Q E hg hr => F.run A outer s H args us vs Q E hg (hr.mono h)⟩
theorem FnG.of {P : Program} {w : World} {K : PySem.W.Frag} {mg : Str → Option Value} {base : Heap} {k : Nat} {f : Addr} {fd : FuncData} {ps : List Str} {sp : Sp} (F : FnOk P w K mg base (L2.CX P w) k f fd ps sp) : FnG P w K mg base k f fd ps sp :=
  ⟨F.len, fun A outer s H args us vs Q E _ hr => F.run A outer s H args us vs Q E hr⟩
/-- the def's worth, from its body's -/
def defM (n : Nat) (b : Bool) (m : MS) : Mir := fun os =>
  let fin : O → Env → Res (O × O) := fun o ρ => if b = true then (match ρ[0]? with
    | some (some o1) => .ok (o, o1)
    | _ => .stuck) else .ok (o, .val .non)
  match m (os.map some ++ List.replicate (n - os.length) none) with
  | .rt o ρ => fin o ρ
  | .nx ρ => fin (.val .non) ρ
  | .er c ds _ => .er c ds []
  | _ => .stuck
section
variable {P : Program} {w : World} {K : PySem.W.Frag} {mg : Str → Option Value} {base : Heap}
/-- the fixed slots of a call: the first parameter, where it is changed in its place -/
def fixB (b : Bool) (vs : List V) : Nat → Option V := fun j => if (b && decide (j = 0)) = true then vs[0]? else none
theorem start_sr {T : Tb} {N : List Str} {b : Bool} {os : List O} {vs : List V} {W : Own} {H : Hp} (e : Entry T W H os vs) (hn : vs.length ≤ N.length) (h0 : b = true → 0 < vs.length) :
    SR (T.at (.no (fixB b vs))) 1 W (L2.start N vs) H (os.map some ++ List.replicate (N.length - os.length) none) where
  ln := by unfold L2.start; rw [List.length_append, List.length_append, List.length_map, List.length_map, List.length_replicate, List.length_replicate, e.ln]
  sl := fun j o eo => by
    have hj : j < os.length := by
      refine Nat.lt_of_not_le fun hge => ?_
      rw [List.getElem?_append_right (by simpa using hge), List.getElem?_replicate] at eo
      split at eo
      · cases eo
      · cases eo
    rw [List.getElem?_append_left (by simpa using hj), List.getElem?_map] at eo
    cases q : os[j]? with
    | none => rw [q] at eo; cases eo
    | some o' =>
      rw [q] at eo
      have : o' = o := by simpa using eo
      subst this
      have hv : j < vs.length := by rw [← e.ln]; exact hj
      refine ⟨vs[j], ?_, Owns.toB _ _ _ (e.ow j o' vs[j] q (by simp [hv]))⟩
      unfold L2.start
      rw [List.getElem?_append_left (by simpa using hv)]
      simp [hv]
  tm := e.tm
  dm := e.dm
  fx := fun j v ev => by
    have ev2 : fixB b vs j = some v := ev
    clear ev
    unfold fixB at ev2
    split at ev2
    · rename_i hb
      rw [Bool.and_eq_true, decide_eq_true_eq] at hb
      obtain ⟨hb, rfl⟩ := hb
      unfold L2.start
      rw [List.getElem?_append_left (by simpa using h0 hb), List.getElem?_map, ev2]
      rfl
    · cases ev2
  pp := trivial
/-- THE RULE for a def -/
theorem fng {x qual : Str} {st : Stmt} {f : Addr} {fd : FuncData} {N ps : List Str} {k : Nat} {T : Tb} {b : Bool} {m : MS} (hK : T.K = K) (F : Fun K x qual st f fd) (S : FnScope N ps (defScope st)) (h0 : b = true → 0 < ps.length)
    (hbody : ∀ (cdv : Value) (A : Around) (outer : List PySem.Env) (s : Shared) (H : Hp) (E : XK) (B : Nat → Option V), Room k (A.deeper (envOfC qual (defScope st) s.heap.objs.size f cdv)) → A.guards = some [] → (∀ i, (b = true → i ≠ 0) → B i = none) →
      Takes (cxOf (L2.CX P w) P w K mg base N qual (defScope st) f cdv A outer s H E) (fun cls d _ H => E cls d H) →
      PassesOwn (model P w) (A.deeper (envOfC qual (defScope st) s.heap.objs.size f cdv)) (envOfC qual (defScope st) s.heap.objs.size f cdv) (cxOf (L2.CX P w) P w K mg base N qual (defScope st) f cdv A outer s H E).xe →
      BV (T.at (.no B)) (cxOf (L2.CX P w) P w K mg base N qual (defScope st) f cdv A outer s H E) (fun cls d _ H => E cls d H) (defBody st) m) :
    FnG P w K mg base (k + 1) f fd ps (spF T ps.length b (defM N.length b m)) := by
  obtain ⟨oc, od, kV, doc, pm, an, cdv, ct, osl, rfl, lk, hcd⟩ := F.ex
  refine ⟨fun vs H Q E h => h.1, fun A outer s H args us vs Q E hg hr e0 hb r hsp => ?_⟩
  obtain ⟨hl, os, wo, en, po⟩ := hsp
  have hnl : vs.length ≤ N.length := by
    have := congrArg List.length S.pre
    rw [List.length_take] at this
    omega
  have KX : K.In s.heap := e0.mod.kin.keeps fun b o e => (e0.bs b o e).1
  have lim : s.heap.NoLimit := e0.mod.nolimit.keeps fun b o e => (e0.bs b o e).1
  have hkind : ∀ y ∈ ps.zip us, (defScope st).names.lookup y.1 = some .local ∨ ((defScope st).names.lookup y.1 = some .cell ∧ ((cellsFrom (s.heap.objs.size + 1) (defScope st).names []).lookup y.1).isSome = true) := fun y hy =>
    (S.par y.1 (List.of_mem_zip hy).1).imp id fun q => ⟨q, PySem.W.cellsFrom_some _ _ _ (.inl q)⟩
  refine codeAny_call_function hr.depth (KX _ _ lk) rfl S.co S.gen rfl (PySem.W.codeRec_of KX hcd) (hb _ _ _ _ (wpAny_newFunctionEnv_cells S.kind hkind fun env he s1 x => ?_))
  subst he
  refine ⟨lim.keeps x.toInCall.keep, codeAny_func ?_⟩
  have I : Inv (cxOf (L2.CX P w) P w K mg base N qual (defScope st) f cdv A outer s H E) [] (L2.start N vs) H s1 := inv_start S hr.hd e0 hl r x
  have fin : ∀ {σ' : L2.St} {H' : Hp} {v : V} {u : Value} {s' : Shared}, Inv (cxOf (L2.CX P w) P w K mg base N qual (defScope st) f cdv A outer s H E) [] σ' H' s' → RelV v u → Q v H' → CE outer P w H s Q u s' :=
    fun J rv q => ⟨_, _, J.os, J.bare, J.base, J.hok, rv, q⟩
  have bv := hbody cdv A outer s H E (fixB b vs) (hr.deeper _) hg (fun i hi => by
    unfold fixB
    rw [if_neg]
    intro z
    rw [Bool.and_eq_true, decide_eq_true_eq] at z
    exact hi z.1 z.2) (takes_of rfl rfl rfl rfl) (passes_of rfl) 1 wo (L2.start N vs) H _ { nx := fun _ H' => Q .non H', rt := Q } (start_sr en hnl fun hb => by rw [hl]; exact h0 hb) (by
    unfold defM at po
    dsimp only at po
    revert po
    have fn : ∀ (o : O) (ρ : Env) (r : Nat) (v : V) (σ' : L2.St) (H' : Hp) (w' : Own), SR (T.at (.no (fixB b vs))) r w' σ' H' ρ → Owns (T.at (.no (fixB b vs))) H' w' o v (.tmp 1, []) → Evo wo H w' H' →
        PostF T b wo H vs Q E (if b = true then (match ρ[0]? with
          | some (some o1) => .ok (o, o1)
          | _ => .stuck) else .ok (o, .val .non)) → Q v H' := by
      intro o ρ r v σ' H' w' s' ow ev po
      cases b with
      | false => exact po v H' w' ow.ofB (fun z => by cases z) ev s'.dm
      | true =>
        rw [if_pos rfl] at po
        split at po
        · rename_i o1 e1
          refine po v H' w' ow.ofB (fun _ u eu => ?_) ev s'.dm
          obtain ⟨u', e2, ow1⟩ := s'.sl 0 o1 e1
          have e3 := s'.fx 0 u (by show fixB true vs 0 = some u; unfold fixB; simpa using eu)
          rw [e2] at e3
          cases e3
          exact ow1.ofB
        · exact po.elim
    cases m (os.map some ++ List.replicate (N.length - os.length) none) with
    | rt o ρ => exact fun po v σ' H' w' s' ow ev => fn o ρ 2 v σ' H' w' s' ow ev po
    | nx ρ => exact fun po σ' H' w' s' ev => fn (.val .non) ρ 1 .non σ' H' w' s' (Owns.val.mpr (Rep.non_.mpr rfl)) ev po
    | er c ds ρ => exact fun po r' cls dd σ' H' w' s' x ev => po cls dd H' w' x.ofB ev s'.dm
    | bk ρ => exact fun po => po.elim
    | ct ρ => exact fun po => po.elim
    | stuck => exact fun po => po.elim)
  refine wpAny_mono (pb_s.run [] s1 _ _ _ I bv) (fun fl s' hs => ?_) fun e s' hs => hs
  cases fl with
  | ret u => obtain ⟨v, σ', H', J, rv, q⟩ := hs; exact fin J rv q
  | next => obtain ⟨σ', H', J, q⟩ := hs; exact fin (v := V.non) (u := Value.none) J rfl q
  | brk => obtain ⟨_, _, _, q⟩ := hs; exact q.elim
  | cont => obtain ⟨_, _, _, q⟩ := hs; exact q.elim
end
end Y
set_option Elab.async false
set_option maxRecDepth 100000
set_option linter.all false
/-! The value layer: calls. -/
namespace Y
open PySem L2
open PySem.Spec PyProof.Rows
/-! ### the tags at a call: R is the root that is handed in as the first argument -/
def cIn (R : Option Root) (w : Own) : Own := fun a => match w a with
  | some (r, π) => if R = some r then some (.slot 0, π) else some (.tmp 0, [])
  | none => none
def cOut (R : Option Root) (r : Nat) (w w' : Own) : Own := fun a => match w' a with
  | some (.tmp 0, _) => w a
  | some (.tmp 1, π) => some (.tmp r, π)
  | some (.slot 0, π) => (match R with
    | some q => some (q, π)
    | none => none)
  | _ => none
section
variable {R : Option Root} {w w' : Own} {a : Addr} {r : Nat} {π : List Nat}
theorem cIn_none (h : w a = none) : cIn R w a = none := by unfold cIn; rw [h]
theorem cIn_R {q : Root} (h : w a = some (q, π)) (e : R = some q) : cIn R w a = some (.slot 0, π) := by unfold cIn; rw [h]; exact if_pos e
theorem cIn_ne {q : Root} (h : w a = some (q, π)) (e : R ≠ some q) : cIn R w a = some (.tmp 0, []) := by unfold cIn; rw [h]; exact if_neg e
theorem cOut_none (h : w' a = none) : cOut R r w w' a = none := by unfold cOut; rw [h]
theorem cOut_0 (h : w' a = some (.tmp 0, π)) : cOut R r w w' a = w a := by unfold cOut; rw [h]; rfl
theorem cOut_1 (h : w' a = some (.tmp 1, π)) : cOut R r w w' a = some (.tmp r, π) := by unfold cOut; rw [h]; rfl
theorem cOut_R {q : Root} (h : w' a = some (.slot 0, π)) (e : R = some q) : cOut R r w w' a = some (q, π) := by subst e; unfold cOut; rw [h]; rfl
theorem cOut_some {t : Tag} (h : cOut R r w w' a = some t) : (w a = some t ∧ ∃ t', w' a = some t') ∨ (∃ π, t = (.tmp r, π) ∧ ∃ t', w' a = some t') ∨ (∃ π, R = some t.1 ∧ t.2 = π ∧ ∃ t', w' a = some t') := by
  unfold cOut at h
  split at h
  · rename_i e; exact .inl ⟨h, _, e⟩
  · rename_i e; cases h; exact .inr (.inl ⟨_, rfl, _, e⟩)
  · rename_i e
    split at h
    · cases h; exact .inr (.inr ⟨_, rfl, rfl, _, e⟩)
    · cases h
  · cases h
end
section
variable {T : Tb} {w : Own} {H : Hp}
/-- the arguments as the callee sees them: all values -/
theorem entryV {ds : List D} {vs : List V} {r : Nat} {σ : L2.St} {ρ : Env} (s : SR T r w σ H ρ) (q : RepL T H w ds vs) : Entry T.o (cIn none w) H (ds.map .val) vs where
  ln := by rw [List.length_map]; exact q.length
  ow := fun j o v e1 e2 => by
    rw [List.getElem?_map] at e1
    cases z : ds[j]? with
    | none => rw [z] at e1; cases e1
    | some d =>
      rw [z] at e1
      cases e1
      obtain ⟨v', e3, rep⟩ := q.get z
      rw [e2] at e3; cases e3
      exact Owns.val.mpr (Rep.toB _ _ (Rep.frame (fun a u hw hu => ⟨hu, cIn_none hw⟩) d v rep))
  tm := fun a k π e => by
    unfold cIn at e
    split at e
    · rw [if_neg (by intro z; cases z)] at e; cases e; decide
    · cases e
  dm := fun a t e => by
    unfold cIn at e
    split at e
    · rename_i r π e2; exact s.dm a _ e2
    · cases e
/-- .. the first one owned -/
theorem entryO {R : Root} {o0 : O} {v0 : V} {ds : List D} {vs : List V} (dm : ∀ a t, w a = some t → H a ≠ none) (q0 : Owns T H w o0 v0 (R, [])) (q : RepL T H w ds vs) : Entry T.o (cIn (some R) w) H (o0 :: ds.map .val) (v0 :: vs) where
  ln := by rw [List.length_cons, List.length_cons, List.length_map, q.length]
  ow := fun j o v e1 e2 => by
    have fz : ∀ a u, w a = none → H a = some u → H a = some u ∧ cIn (some R) w a = none := fun a u hw hu => ⟨hu, cIn_none hw⟩
    cases j with
    | zero =>
      simp at e1 e2; subst e1; subst e2
      exact Owns.toB _ _ _ (Owns.frame fz o0 v0 (R, []) (.slot 0, []) (fun a u s hw hu => ⟨hu, cIn_R hw rfl⟩) q0)
    | succ j =>
      have e1 : (ds.map O.val)[j]? = some o := by simpa using e1
      have e2 : vs[j]? = some v := by simpa using e2
      rw [List.getElem?_map] at e1
      cases z : ds[j]? with
      | none => rw [z] at e1; cases e1
      | some d =>
        rw [z] at e1
        cases e1
        obtain ⟨v', e3, rep⟩ := q.get z
        rw [e2] at e3; cases e3
        exact Owns.val.mpr (Rep.toB _ _ (Rep.frame fz d v rep))
  tm := fun a k π e => by
    unfold cIn at e
    split at e
    · split at e
      · cases e
      · cases e; decide
    · cases e
  dm := fun a t e => by
    unfold cIn at e
    split at e
    · rename_i r π e2; exact dm a _ e2
    · cases e
/-- behind a call: what is not handed in stays -/
theorem call_stay {R : Option Root} {r : Nat} {H' : Hp} {w' : Own} (ev : Evo (cIn R w) H w' H') : ∀ a u, (∀ q π, R = some q → w a ≠ some (q, π)) → H a = some u → H' a = some u ∧ cOut R r w w' a = w a := fun a u hn hu => by
  cases q : w a with
  | none =>
    obtain ⟨e1, e2⟩ := ev a u (.inl (cIn_none q)) hu
    rw [cIn_none q] at e2
    exact ⟨e1, cOut_none e2⟩
  | some t =>
    obtain ⟨rt, π⟩ := t
    have ne : R ≠ some rt := fun z => hn rt π z q
    obtain ⟨e1, e2⟩ := ev a u (.inr ⟨0, [], cIn_ne q ne⟩) hu
    rw [cIn_ne q ne] at e2
    exact ⟨e1, (cOut_0 e2).trans q⟩
theorem call_ans {R : Option Root} {r : Nat} {H' : Hp} {w' : Own} {o : O} {v : V} (q : Owns T.o H' w' o v (.tmp 1, [])) : Owns T H' (cOut R r w w') o v (.tmp r, []) :=
  Owns.frame (fun a u hw hu => ⟨hu, cOut_none hw⟩) o v _ _ (fun a u s hw hu => ⟨hu, cOut_1 hw⟩) (Owns.ofB q)
theorem call_arg {R : Root} {r : Nat} {H' : Hp} {w' : Own} {o : O} {v : V} (q : Owns T.o H' w' o v (.slot 0, [])) : Owns T H' (cOut (some R) r w w') o v (R, []) :=
  Owns.frame (fun a u hw hu => ⟨hu, cOut_none hw⟩) o v _ _ (fun a u s hw hu => ⟨hu, cOut_R hw rfl⟩) (Owns.ofB q)
theorem call_exc {R : Option Root} {r : Nat} {H' : Hp} {w' : Own} {c : Nat} {ds : List D} {cls : Value} {dd : Option Addr} (x : Exc T.o H' w' c ds cls dd) : Exc T H' (cOut R r w w') c ds cls dd := by
  obtain ⟨e, d, fs, vs, e1, e2, e3, e4, e5, e6⟩ := Exc.ofB x
  exact ⟨e, d, fs, vs, e1, e2, cOut_none e3, RepL.frame (fun a u hw hu => ⟨hu, cOut_none hw⟩) _ _ e4, e5, e6⟩
theorem call_dm {R : Option Root} {r : Nat} {H' : Hp} {w' : Own} (dm' : ∀ a t, w' a = some t → H' a ≠ none) : ∀ a t, cOut R r w w' a = some t → H' a ≠ none := fun a t e => by
  rcases cOut_some e with ⟨_, t', e'⟩ | ⟨_, _, t', e'⟩ | ⟨_, _, _, t', e'⟩ <;> exact dm' a t' e'
theorem call_tm {R : Option Root} {r : Nat} {w' : Own} (tm : ∀ a k π, w a = some (.tmp k, π) → k < r) (hR : ∀ k, R = some (.tmp k) → k < r + 1) : ∀ a k π, cOut R r w w' a = some (.tmp k, π) → k < r + 1 := fun a k π e => by
  rcases cOut_some e with ⟨e1, _⟩ | ⟨π', e1, _⟩ | ⟨π', e1, _⟩
  · exact Nat.lt_succ_of_lt (tm a k π e1)
  · cases e1; exact Nat.lt_succ_self r
  · exact hR k e1
end
section
variable {T : Tb} {X : Cx} {W : WX}
/-- the callee runs -/
theorem run_g {k : Nat} {f : Addr} {fd : FuncData} {ps : List Str} {sp : Sp} {pins : List (Addr × Obj)} {σ : L2.St} {H : Hp} {s : Shared} {Q : VK} {us : List Value} {vs : List V} {args : Args} (tk : Takes X W) (G : FnG X.prog X.w X.K X.mg X.base k f fd ps sp) (hr : Room k X.A) (hgd : X.A.guards = some [])
    (I : Inv X pins σ H s) (hb : BindsTo s fd args (ps.zip us)) (r : Vals vs us) (h : sp vs H Q (fun cls d H' => W cls d σ H')) : codeAny (model X.prog X.w) X.A (.call (.ref f) args) (fun r s' => match r with
      | .ok (.ret u) => EP X pins σ Q u s'
      | .ok _ => False
      | .error e => X.xe e s') s := by
  refine codeAny_mono (G.run X.A X.stack s H args us vs Q _ hgd hr I.env0 hb r h) fun r s' hq => ?_
  cases r with
  | error e => exact tk e s' (XE.of_call I (fun cls d H' h => h) hq)
  | ok fl =>
    cases fl with
    | ret u => exact I.after hq
    | next => exact hq
    | brk => exact hq
    | cont => exact hq
theorem call_g {k : Nat} {f : Addr} {fd : FuncData} {ps : List Str} {sp : Sp} {pins : List (Addr × Obj)} {σ : L2.St} {H : Hp} {s : Shared} {Q : VK} {us ws : List Value} {vs : List V} {kw : List (Str × Value)} (tk : Takes X W) (G : FnG X.prog X.w X.K X.mg X.base k f fd ps sp) (hr : Room k X.A) (hgd : X.A.guards = some [])
    (I : Inv X pins σ H s) (hb : BindsTo s fd ⟨us, kw⟩ (ps.zip ws)) (r : Vals vs ws) (h : sp vs H Q (fun cls d H' => W cls d σ H')) : wpAny (model X.prog X.w) X.A (call (.ref f) us kw) (EP X pins σ Q) X.xe s := by
  refine wpAny_call (codeAny_mono (run_g tk G hr hgd I hb r h) fun r s' hq => ?_)
  cases r with
  | error e => exact hq
  | ok fl =>
    cases fl with
    | ret u => exact hq
    | next => exact hq.elim
    | brk => exact hq.elim
    | cont => exact hq.elim
variable {x : Str} {p pos : Pos} {a e : Expr} {es : List Expr} {fs : M (List D)} {F : Mir} {k n : Nat} {f : Addr} {fd : FuncData} {ps : List Str}
/-- f(e, ..): all arguments are values -/
def mcall (F : Mir) (fs : M (List D)) : M O := mbind fs fun ds ρ => match F (ds.map .val) with
  | .ok (o, _) => .ok (o, ρ)
  | .er c es _ => .er c es ρ
  | .stuck => .stuck
theorem post_call {r : Nat} {w : Own} {σ : L2.St} {H : Hp} {ρ : Env} {ds : List D} {vs : List V} {Q : VK} (s : SR T r w σ H ρ) (q : RepL T H w ds vs)
    (h : Post T W w H σ (r + 1) (fun H w o v => Owns T H w o v (.tmp r, [])) ((match F (ds.map .val) with
      | .ok (o, _) => .ok (o, ρ)
      | .er c es _ => .er c es ρ
      | .stuck => .stuck : Res (O × Env))) Q) (hn : vs.length = n) : spF T.o n false F vs H Q (fun cls d H' => W cls d σ H') := by
  refine ⟨hn, _, _, entryV s q, ?_⟩
  have st : ∀ {H' : Hp} {w' : Own}, Evo (cIn none w) H w' H' → ∀ a u, H a = some u → H' a = some u ∧ cOut none r w w' a = w a := fun ev a u hu => call_stay (R := none) (r := r) ev a u (fun q π z => by cases z) hu
  revert h
  cases F (ds.map .val) with
  | ok z =>
    intro h v H' w' ow _ ev dm'
    exact h v H' (cOut none r w w') (s.stay (st ev) (call_tm s.tm fun k z => by cases z) (call_dm dm')) (call_ans ow) (fun a u _ hu => st ev a u hu)
  | er c es ρ' =>
    intro h cls dd H' w' x ev dm'
    exact h (r + 1) cls dd H' (cOut none r w w') (s.stay (st ev) (call_tm s.tm fun k z => by cases z) (call_dm dm')) (call_exc x) (fun a u _ hu => st ev a u hu)
  | stuck => exact fun h => h
theorem eo_call (tk : Takes X W) (G : FnG X.prog X.w X.K X.mg X.base k f fd ps (spF T.o n false F)) (hr : Room k X.A) (hgd : X.A.guards = some []) (hg : Gl X x) (hm : X.mg x = some (.ref f)) (hk : PySem.W.keepIn X.K (.ref f) = true) (hb : Binds X.K fd ps []) (ha : AV T X W (e :: es) fs)
    (hn : (e :: es).length = n := by rfl) (hdb : (x == ("__debug__" : Str)) = false := by decide) (he : starEach (e :: es) X.env = (false, eval e X.env) :: starEach es X.env := by rfl) (hpl : (backTo pos (starEach es X.env)).any (·.1) = false := by rfl) : EO T X W (.Call (.Name x p) (e :: es) [] pos) (mcall F fs) := by
  intro r w σ H ρ Q s po
  unfold sE
  intro pins sh I
  refine wpAny_Call_Name_kw (ld_glob I hg hm ?_ hdb)
  have main : sA X (e :: es) σ H (fun vs H1 => spF T.o n false F vs H1 Q (fun cls d H' => W cls d σ H')) := by
    refine ha.run r w σ H ρ _ s ?_
    have hfn := ha.len ρ
    unfold mcall mbind at po
    revert po
    cases e : fs ρ with
    | ok z =>
      obtain ⟨ds, ρ1⟩ := z
      intro po vs H1 w1 s1 q1 ev
      refine post_call (r := r) s1 q1 ?_ (by rw [← q1.length, hfn ds ρ1 e]; exact hn)
      revert po
      dsimp only
      cases F (ds.map .val) with
      | ok z => exact fun po b H' w' s' q' e' => po b H' w' s' q' (ev.trans e')
      | er c es ρ' => exact fun po r' cls dd H' w' s' q' e' => po r' cls dd H' w' s' q' (ev.trans e')
      | stuck => exact fun po => po
    | er c ds ρ1 => exact fun po => po
    | stuck => exact fun po => po
  refine PySem.W.callWith_K (h₀ := X.base) I.ok.mod.kin hk (thn (pa_s.run pos pins sh _ _ _ I main) fun us s1 ⟨vs, H1, I1, rv, q⟩ => ⟨I1.kIn, ?_⟩) he hpl
  refine call_g tk G hr hgd I1 (ws := us ++ []) (hb s1 us I1.kIn ?_) (by simpa using rv) q
  rw [List.append_nil, ← rv.length]
  exact G.len _ _ _ _ q
end
end Y
set_option Elab.async false
set_option maxRecDepth 100000
set_option linter.all false
/-! The value layer: list comprehensions. -/
namespace Y
open PySem L2
open PySem.Spec PyProof.Rows
def wipeE (ρ : Env) : List Nat → Env
  | [] => ρ
  | v :: vs => (wipeE ρ vs).set v none
theorem wipeE_length (ρ : Env) : ∀ vs : List Nat, (wipeE ρ vs).length = ρ.length
  | [] => rfl
  | v :: vs => by unfold wipeE; rw [List.length_set, wipeE_length ρ vs]
theorem wipeE_some {ρ : Env} {i : Nat} {o : O} : ∀ {vs : List Nat}, (wipeE ρ vs)[i]? = some (some o) → ρ[i]? = some (some o) ∧ i ∉ vs
  | [], h => ⟨h, by simp⟩
  | v :: vs, h => by
    unfold wipeE at h
    rw [List.getElem?_set] at h
    by_cases e : v = i
    · subst e; rw [if_pos rfl] at h; split at h <;> cases h
    · rw [if_neg e] at h
      obtain ⟨h1, h2⟩ := wipeE_some h
      exact ⟨h1, by simp only [List.mem_cons, not_or]; exact ⟨fun z => e z.symm, h2⟩⟩
theorem wipeE_out {ρ : Env} {i : Nat} : ∀ {vs : List Nat}, i ∉ vs → (wipeE ρ vs)[i]? = ρ[i]?
  | [], _ => rfl
  | v :: vs, h => by
    simp only [List.mem_cons, not_or] at h
    unfold wipeE
    rw [List.getElem?_set_ne (Ne.symm h.1)]
    exact wipeE_out h.2
theorem wipeE_idem {ρ : Env} (vs : List Nat) : wipeE (wipeE ρ vs) vs = wipeE ρ vs := by
  apply List.ext_getElem?
  intro i
  by_cases h : i ∈ vs
  · have z : ∀ (us : List Nat) (τ : Env), i ∈ us → (wipeE τ us)[i]? = if i < τ.length then some none else none := by
      intro us τ
      induction us with
      | nil => intro h; cases h
      | cons u us ih =>
        intro h
        unfold wipeE
        rw [List.getElem?_set]
        by_cases e : u = i
        · subst e
          rw [if_pos rfl, wipeE_length]
        · rw [if_neg e]
          rcases List.mem_cons.mp h with h | h
          · exact absurd h.symm e
          · exact ih h
    rw [z vs _ h, z vs _ h, wipeE_length]
  · rw [wipeE_out h]
section
variable {T : Tb} {w : Own} {H : Hp} {r : Nat}
theorem SR.updT {σ : L2.St} {ρ : Env} {p : Addr} {k : Nat} {π : List Nat} {o : HO} (s : SR T r w σ H ρ) (hp : w p = some (.tmp k, π)) : SR T r w σ (upd H p o) ρ where
  ln := s.ln
  sl := fun i o' e => by
    obtain ⟨v, e1, ow⟩ := s.sl i o' e
    refine ⟨v, e1, ow.slot (fun a u hw hu => ⟨?_, hw⟩) fun a u q hw hu => ⟨?_, rfl⟩⟩
    · have ne : a ≠ p := fun z => by subst z; rw [hp] at hw; cases hw
      rw [upd_ne ne]; exact hu
    · have ne : a ≠ p := fun z => by subst z; rw [hp] at hw; cases hw
      rw [upd_ne ne]; exact hu
  tm := s.tm
  dm := fun a t e => by
    by_cases h : a = p
    · subst h; rw [upd_same]; exact fun z => by cases z
    · rw [upd_ne h]; exact s.dm a t e
  fx := s.fx
  pp := T.pc _ _ _ _ (fun a u hw hu => ⟨by
    have ne : a ≠ p := fun z => by subst z; rw [hp] at hw; cases hw
    rw [upd_ne ne]; exact hu, hw⟩) s.pp
theorem SR.wipe {σ σ' : L2.St} {ρ : Env} {vs : List Nat} (s : SR T r w σ H ρ) (hB : ∀ i ∈ vs, T.B i = none) (e : L2.wipe σ' vs = L2.wipe σ vs) : SR T r w σ' H (wipeE ρ vs) where
  ln := by
    rw [wipeE_length, ← s.ln, ← wipe_length σ' vs, e, wipe_length]
  sl := fun i o h => by
    obtain ⟨h1, h2⟩ := wipeE_some h
    obtain ⟨v, e1, ow⟩ := s.sl i o h1
    refine ⟨v, ?_, ow⟩
    rw [← wipe_out (σ := σ') h2, e, wipe_out h2]
    exact e1
  tm := s.tm
  dm := s.dm
  fx := fun j v h => by
    have h2 : j ∉ vs := fun z => by rw [hB j z] at h; cases h
    rw [← wipe_out (σ := σ') h2, e, wipe_out h2]
    exact s.fx j v h
  pp := s.pp
theorem wipe_idem {σ : L2.St} (vs : List Nat) : L2.wipe (L2.wipe σ vs) vs = L2.wipe σ vs := by
  apply List.ext_getElem?
  intro i
  by_cases h : i ∈ vs
  · have z : ∀ (us : List Nat) (τ : L2.St), i ∈ us → (L2.wipe τ us)[i]? = if i < τ.length then some none else none := by
      intro us τ
      induction us with
      | nil => intro h; cases h
      | cons u us ih =>
        intro h
        unfold L2.wipe
        rw [List.getElem?_set]
        by_cases e : u = i
        · subst e
          rw [if_pos rfl, wipe_length]
        · rw [if_neg e]
          rcases List.mem_cons.mp h with h | h
          · exact absurd h.symm e
          · exact ih h
    rw [z vs _ h, z vs _ h, wipe_length]
  · rw [wipe_out h]
end
/-- a comprehension's target -/
def GC (T : Tb) (X : Cx) (tg : Expr) (vs : List Nat) (bnd : D → Env → Option Env) : Prop := ∃ t, PG X tg t ∧ ∀ r w σ H ρ d v ρ1 Q, SR T r w σ H ρ → Rep T H w d v → bnd d ρ = some ρ1 → (∀ σ1, SR T r w σ1 H ρ1 → L2.wipe σ1 vs = L2.wipe σ vs → Q σ1 H) → t v σ H Q
def GsC (T : Tb) (X : Cx) (ts : List Expr) (vs : List Nat) (bnd : List D → Env → Option Env) : Prop := ∃ t, PGs X ts t ∧ ∀ r w σ H ρ ds us ρ1 Q, SR T r w σ H ρ → RepL T H w ds us → bnd ds ρ = some ρ1 → (∀ σ1, SR T r w σ1 H ρ1 → L2.wipe σ1 vs = L2.wipe σ vs → Q σ1 H) → t us σ H Q
theorem wipe_set {σ : L2.St} {i : Nat} {x : Option V} : ∀ {vs : List Nat}, i ∈ vs → L2.wipe (σ.set i x) vs = L2.wipe σ vs
  | v :: vs, h => by
    unfold L2.wipe
    by_cases e : i ∈ vs
    · rw [wipe_set e]
    · have e2 : i = v := (List.mem_cons.mp h).resolve_right e
      subst e2
      have z : ∀ (us : List Nat), i ∉ us → L2.wipe (σ.set i x) us = (L2.wipe σ us).set i x := by
        intro us
        induction us with
        | nil => intro _; rfl
        | cons u us ih =>
          intro hu
          simp only [List.mem_cons, not_or] at hu
          unfold L2.wipe
          rw [ih hu.2, List.set_comm _ _ hu.1]
      rw [z vs e, List.set_set]
section
variable {T : Tb} {X : Cx} {W : WX} {pos : Pos}
theorem gc_name {i : Nat} {x : Str} {vs : List Nat} (hN : X.N.Nodup) (hB : T.B i = none) (hv : i ∈ vs := by decide) (hi : X.N[i]? = some x := by rfl) (hx : Loc X.env.scope x := by first | exact Or.inl rfl | exact Or.inr rfl) (hf : X.fn x = true ∨ X.env.scope.names.lookup x = some .local := by first | exact .inl rfl | exact .inr rfl) : GC T X (.Name x pos) vs (bname i) :=
  ⟨_, pg_name hN hi hx hf, fun r w σ H ρ d v ρ1 Q s q e k => by cases e; exact k _ (s.setV q i hB) (wipe_set hv)⟩
theorem gsc_nil {vs : List Nat} : GsC T X [] vs bnil := ⟨_, pgs_nil, fun r w σ H ρ ds us ρ1 Q s q e k => by
  cases ds with
  | nil => cases e; simp only [RepL] at q; subst q; exact ⟨rfl, k σ s rfl⟩
  | cons d ds => cases e⟩
theorem gsc_cons {tg : Expr} {ts : List Expr} {vs : List Nat} {b : D → Env → Option Env} {bs : List D → Env → Option Env} (h1 : GC T X tg vs b) (h2 : GsC T X ts vs bs) (hs : (assignEach (tg :: ts) X.env).map (·.2) = assign tg X.env :: (assignEach ts X.env).map (·.2) := by rfl) : GsC T X (tg :: ts) vs (bcons b bs) := by
  obtain ⟨t, p1, k1⟩ := h1
  obtain ⟨u, p2, k2⟩ := h2
  refine ⟨_, pgs_cons p1 p2 hs, fun r w σ H ρ ds us ρ1 Q s q e k => ?_⟩
  cases ds with
  | nil => cases e
  | cons d ds =>
    simp only [RepL] at q
    obtain ⟨v, ws, rfl, rv, q⟩ := q
    simp only [bcons, Option.bind_eq_some_iff] at e
    obtain ⟨ρ2, e1, e2⟩ := e
    exact ⟨v, ws, rfl, k1 r w σ H ρ d v ρ2 _ s rv e1 fun σ1 s1 z1 => k2 r w σ1 H ρ2 ds ws ρ1 Q s1 q e2 fun σ2 s2 z2 => k σ2 s2 (z2.trans z1)⟩
theorem gc_tup {es : List Expr} {k n : Nat} {vs : List Nat} {bs : List D → Env → Option Env} (hK : X.K = T.K) (hc : X.calm = true) (h : GsC T X es vs bs) (hn : (assignEach es X.env).length = n := by rfl) (hst : (assignEach es X.env).findIdx? (·.1) = none := by rfl) : GC T X (.Tuple es k pos) vs (btup n bs) := by
  obtain ⟨t, p1, k1⟩ := h
  refine ⟨_, pg_tup hc p1 hn hst, fun r w σ H ρ d v ρ1 Q s q e k => ?_⟩
  unfold btup at e
  split at e
  · split at e
    · rename_i hl
      obtain ⟨a, us, rfl, ha, hv⟩ := Rep.node.mp q
      exact ⟨a, us, rfl, by rw [hK]; exact ha.tup, by rw [← hv.length]; exact hl, k1 r w σ H ρ _ us ρ1 Q s hv e k⟩
    · cases e
  · cases e
/-- a comprehension's tests -/
def CT (T : Tb) (X : Cx) (W : WX) (ifs : List Expr) (g : M Bool) : Prop := ∃ t, PTs X ifs t ∧ ∀ r w σ H ρ Q, SR T r w σ H ρ → Post T W w H σ r (fun _ _ (a b : Bool) => a = b) (g ρ) Q → t σ H Q
theorem ct_nil : CT T X W [] (mret true) := ⟨_, pts_nil, fun r w σ H ρ Q s p => p.ret s rfl⟩
theorem ct_one {c : Expr} {g : M Bool} (h : TV T X W c g) : CT T X W [c] g := ⟨_, pts_one pt_s, fun r w σ H ρ Q s p => h r w σ H ρ Q s p⟩
/-- the turns of a comprehension -/
def loopC (vs : List Nat) (bb : D → Env → Option Env) (c : M Bool) (f : M D) : List D → List D → Env → Res (List D × Env)
  | [], acc, ρ => .ok (acc, wipeE ρ vs)
  | d :: ds, acc, ρ => match bb d (wipeE ρ vs) with
    | none => .stuck
    | some ρ1 => match c ρ1 with
      | .ok (true, ρ2) => (match f ρ2 with
        | .ok (y, ρ3) => if acc.length < sizeLine then loopC vs bb c f ds (acc ++ [y]) ρ3 else .stuck
        | _ => .stuck)
      | .ok (false, ρ2) => loopC vs bb c f ds acc ρ2
      | _ => .stuck
def mcomp (vs : List Nat) (i : M (List D)) (bb : D → Env → Option Env) (c : M Bool) (f : M D) : M O := mbind i fun ds => mbind (loopC vs bb c f ds []) fun l => mret (nl l)
abbrev W0 : WX := fun _ _ _ _ => False
theorem loopC_er {vs : List Nat} {bb : D → Env → Option Env} {c : M Bool} {f : M D} {k : Nat} {es : List D} {ρ' : Env} : ∀ {ds acc : List D} {ρ : Env}, loopC vs bb c f ds acc ρ ≠ .er k es ρ'
  | [], acc, ρ => by unfold loopC; intro e; cases e
  | d :: ds, acc, ρ => by
    unfold loopC
    intro e
    split at e
    · cases e
    · split at e
      · split at e
        · split at e
          · exact loopC_er e
          · cases e
        · cases e
      · exact loopC_er e
      · cases e
def sG (X : Cx) (tg : Expr) : TG := fun v σ H Q => ∀ (pins : List (Addr × Obj)) (s : Shared) (u : Value), Inv X pins σ H s → RelV v u → wpAny (model X.prog X.w) X.A (assign tg X.env u) (fun _ s' => ∃ σ' H', Inv X pins σ' H' s' ∧ Q σ' H') X.xe s
def sC (X : Cx) (ifs : List Expr) : TT := fun σ H Q => ∀ (pins : List (Addr × Obj)) (s : Shared), Inv X pins σ H s →
  wpAny (model X.prog X.w) X.A (forIn ifs true fun c r => if r = true then do let ok ← isTrue c X.env (eval c X.env); pure (ForInStep.yield ok) else pure (ForInStep.yield r)) (TP X pins σ Q) X.xe s
theorem lc_read {elt tg iter : Expr} {ifs : List Expr} {scope : Scope} {own : List (Str × Nat)} {fi : M (List D)} {bb : D → Env → Option Env} {gc : M Bool} {fe : M D} {vs : List Nat} (hv : vs = own.map (·.2)) (hB : ∀ i ∈ vs, T.B i = none)
    (hi : IV T X W tg iter fi)
    (hg : ∀ (s : Shared) (H : Hp) (C : Addr) (cl : List (Str × Addr)) (fp : List Addr), GC T (X.blk s H scope (compEnvC scope cl C X.env) fp) tg vs bb)
    (ht : ∀ (s : Shared) (H : Hp) (C : Addr) (cl : List (Str × Addr)) (fp : List Addr), CT T (X.blk s H scope (compEnvC scope cl C X.env) fp) W0 ifs gc)
    (he : ∀ (s : Shared) (H : Hp) (C : Addr) (cl : List (Str × Addr)) (fp : List Addr), EV T (X.blk s H scope (compEnvC scope cl C X.env) fp) W0 elt fe) :
    ∃ (wi : TI) (g : TG) (tt : TT) (te : TE), PI X tg iter wi ∧
      (∀ (s : Shared) (H : Hp) (C : Addr) (cl : List (Str × Addr)) (fp : List Addr), PG (X.blk s H scope (compEnvC scope cl C X.env) fp) tg g) ∧
      (∀ (s : Shared) (H : Hp) (C : Addr) (cl : List (Str × Addr)) (fp : List Addr), PTs (X.blk s H scope (compEnvC scope cl C X.env) fp) ifs tt) ∧
      (∀ (s : Shared) (H : Hp) (C : Addr) (cl : List (Str × Addr)) (fp : List Addr), PE (X.blk s H scope (compEnvC scope cl C X.env) fp) elt te) ∧
      ∀ r w σ H ρ Q, SR T r w σ H ρ → Post T W w H σ (r + 1) (fun H w o v => Owns T H w o v (.tmp r, [])) (mcomp vs fi bb gc fe ρ) Q → tLc wi g tt te (own.map (·.2)) σ H Q := by
  obtain ⟨wi, pi, ki⟩ := hi
  refine ⟨wi, fun v σ H Q => ∀ (s : Shared) (H0 : Hp) (C : Addr) (cl : List (Str × Addr)) (fp : List Addr), sG (X.blk s H0 scope (compEnvC scope cl C X.env) fp) tg v σ H Q,
    fun σ H Q => ∀ (s : Shared) (H0 : Hp) (C : Addr) (cl : List (Str × Addr)) (fp : List Addr), sC (X.blk s H0 scope (compEnvC scope cl C X.env) fp) ifs σ H Q,
    fun σ H Q => ∀ (s : Shared) (H0 : Hp) (C : Addr) (cl : List (Str × Addr)) (fp : List Addr), sE (X.blk s H0 scope (compEnvC scope cl C X.env) fp) elt σ H Q, pi,
    fun s H C cl fp => ⟨fun pins s' σ H' v u Q I rv h => h s H C cl fp pins s' u I rv⟩, fun s H C cl fp => ⟨fun pins s' σ H' Q I h => h s H C cl fp pins s' I⟩, fun s H C cl fp => ⟨fun pins s' σ H' Q I h => pe_s.run pins s' σ H' Q I (h s H C cl fp)⟩, ?_⟩
  rw [← hv]
  intro r w0 σ0 H0 ρ0 Q s0 p
  refine ki r w0 σ0 H0 ρ0 _ s0 ?_
  unfold mcomp mbind at p
  revert p
  cases fi ρ0 with
  | stuck => exact fun p => p
  | er c ds ρ1 => exact fun p => p
  | ok q =>
    obtain ⟨ds, ρ1⟩ := q
    dsimp only
    intro p J H1 w1 s1 wk ev
    cases hl : loopC vs bb gc fe ds [] ρ1 with
    | stuck => rw [hl] at p; exact p.elim
    | er c es ρ' => exact absurd hl loopC_er
    | ok q2 =>
      obtain ⟨l, ρ2⟩ := q2
      rw [hl] at p
      intro D hD
      have sm0 : Same H1 (upd H1 D (.lst [])) := same_upd hD
      refine ⟨fun i m H => m = ds.length - i ∧ i ≤ ds.length ∧ ∃ w ρ accD acc, SR T (r + 1) w σ0 H (wipeE ρ vs) ∧ loopC vs bb gc fe (ds.drop i) accD ρ = .ok (l, ρ2) ∧ w D = some (.tmp r, []) ∧ H D = some (.lst acc) ∧ RepL T H w accD acc ∧ Evo w1 H1 w H,
        ⟨ds.length, by simp, Nat.zero_le _, wset w1 D (some (.tmp r, [])), ρ1, [], [], (s1.new hD (Nat.le_succ r) fun k π e => by cases e; exact Nat.lt_succ_self r).wipe hB rfl, by simpa using hl, wset_same, upd_same, .nil, .new hD⟩, ?_⟩
      rintro i m H ⟨rfl, hi, w, ρ, accD, acc, s, el, wD, HD, rep, e⟩
      obtain ⟨k1, k2⟩ := wk i w H e s.fr
      by_cases hlt : i < ds.length
      · obtain ⟨go, yld⟩ := k1 ds[i] (by simp [hlt])
        refine .inr ⟨go, fun H => i + 1 ≤ ds.length ∧ ∃ w ρ accD acc, SR T (r + 1) w σ0 H (wipeE ρ vs) ∧ loopC vs bb gc fe (ds.drop (i + 1)) accD ρ = .ok (l, ρ2) ∧ w D = some (.tmp r, []) ∧ H D = some (.lst acc) ∧ RepL T H w accD acc ∧ Evo w1 H1 w H,
          fun H' h => ⟨ds.length - (i + 1), by omega, rfl, h⟩, fun x H' y s' H0' C cl fp => ?_⟩
        obtain ⟨sm, rx⟩ := yld x H' y
        rw [List.drop_eq_getElem_cons hlt] at el
        unfold loopC at el
        split at el
        · cases el
        · rename_i ρb eb
          obtain ⟨tg', pg, kg⟩ := hg s' H0' C cl fp
          have sw : SR T (r + 1) w (L2.wipe σ0 vs) H' (wipeE ρ vs) := by
            have := (s.same sm).wipe (σ' := L2.wipe σ0 vs) hB (wipe_idem vs)
            rwa [wipeE_idem] at this
          refine fun pins sh u I rv => pg.run pins sh _ H' x u _ I rv (kg (r + 1) w _ H' _ ds[i] x ρb _ sw rx eb fun σ1 sb zb => ⟨zb.trans (wipe_idem vs), fun s'' H0'' C' cl' fp' => ?_⟩)
          have zb := zb.trans (wipe_idem vs)
          obtain ⟨tt', pt, kt⟩ := ht s'' H0'' C' cl' fp'
          have em : Evo w H w H' := .same sm
          intro pins2 sh2 I2
          refine pt.run pins2 sh2 σ1 H' _ I2 (kt (r + 1) w σ1 H' ρb _ sb ?_)
          cases ec : gc ρb with
          | stuck => rw [ec] at el; cases el
          | er c es ρ' => rw [ec] at el; cases el
          | ok qc =>
            obtain ⟨bt, ρc⟩ := qc
            rw [ec] at el
            intro b H3 w3 s3 hb e3
            subst hb
            cases bt with
            | false =>
              rw [if_neg (by decide)]
              have D3 := e3 D _ (.inr ⟨r, [], wD⟩) (sm D _ HD)
              exact ⟨hlt, w3, ρc, accD, acc, s3.wipe hB zb.symm, el, D3.2.trans wD, D3.1, (rep.same sm).evo e3, (e.trans em).trans e3⟩
            | true =>
              rw [if_pos rfl]
              intro s5 H05 C5 cl5 fp5
              refine he s5 H05 C5 cl5 fp5 (r + 1) w3 σ1 H3 ρc _ s3 ?_
              dsimp only at el
              cases ef : fe ρc with
              | stuck => rw [ef] at el; cases el
              | er c es ρ' => rw [ef] at el; cases el
              | ok qf =>
                obtain ⟨yd, ρd⟩ := qf
                rw [ef] at el
                dsimp only at el
                split at el
                · rename_i hz
                  intro yv H4 w4 s4 ry e4
                  have D3 := e3 D _ (.inr ⟨r, [], wD⟩) (sm D _ HD)
                  have wD3 : w3 D = some (.tmp r, []) := D3.2.trans wD
                  have D4 := e4 D _ (.inr ⟨r, [], wD3⟩) D3.1
                  have wD4 : w4 D = some (.tmp r, []) := D4.2.trans wD3
                  have rep4 := ((rep.same sm).evo e3).evo e4
                  refine ⟨acc, D4.1, by rw [← rep4.length]; exact hz, hlt, w4, ρd, accD ++ [yd], acc ++ [yv], (s4.wipe hB zb.symm).updT wD4, el, wD4, upd_same, ?_, ?_⟩
                  · have fz : ∀ a u, w4 a = none → H4 a = some u → upd H4 D (.lst (acc ++ [yv])) a = some u ∧ w4 a = none := fun a u ha hu => ⟨by
                      have ne : a ≠ D := fun z => by subst z; rw [wD4] at ha; cases ha
                      rw [upd_ne ne]; exact hu, ha⟩
                    exact (RepL.frame fz _ _ rep4).append (.one (Rep.frame fz _ _ ry))
                  · intro a u hc hu
                    have ne : a ≠ D := fun z => by subst z; rw [hD] at hu; cases hu
                    obtain ⟨z1, z2⟩ := (((e.trans em).trans e3).trans e4) a u hc hu
                    exact ⟨by rw [upd_ne ne]; exact z1, z2⟩
                · cases el
      · have ei : i = ds.length := by omega
        subst ei
        rw [List.drop_length] at el
        unfold loopC at el
        cases el
        refine .inl ⟨k2 (Nat.le_refl _), p (.ref D) H w s (Owns.node.mpr ⟨D, acc, 0, rfl, wD, HD, trivial, (fun z => by cases z), ownsL_vals.mpr rep⟩) (ev.trans e)⟩
theorem eo_comp {elt tg iter : Expr} {ifs : List Expr} {scope : Scope} {own : List (Str × Nat)} {fi : M (List D)} {bb : D → Env → Option Env} {gc : M Bool} {fe : M D} {vs : List Nat} (hc : X.calm = true) (hN : X.N.Nodup) (ok : BlkOk X.N X.env.scope scope own) (hv : vs = own.map (·.2)) (hB : ∀ i ∈ vs, T.B i = none)
    (hi : IV T X W tg iter fi)
    (hg : ∀ (s : Shared) (H : Hp) (C : Addr) (cl : List (Str × Addr)) (fp : List Addr), GC T (X.blk s H scope (compEnvC scope cl C X.env) fp) tg vs bb)
    (ht : ∀ (s : Shared) (H : Hp) (C : Addr) (cl : List (Str × Addr)) (fp : List Addr), CT T (X.blk s H scope (compEnvC scope cl C X.env) fp) W0 ifs gc)
    (he : ∀ (s : Shared) (H : Hp) (C : Addr) (cl : List (Str × Addr)) (fp : List Addr), EV T (X.blk s H scope (compEnvC scope cl C X.env) fp) W0 elt fe) (hs : ∀ x, foldedSetIterable iter X.env x = pure x := by intro _; rfl) :
    EO T X W (.ListComp elt [⟨tg, iter, ifs, 0⟩] scope pos) (mcomp vs fi bb gc fe) := by
  intro r w σ H ρ Q s p
  obtain ⟨wi, g, tt, te, pi, pg, pt, pe, k⟩ := lc_read hv hB hi hg ht he
  exact sE_of (pe_lc hc hN pi ok pg pt pe hs) (k r w σ H ρ Q s p)
/-- name = [..] on one line -/
theorem sv_setC {i : Nat} {y : Str} {py spos : Pos} {elt tg iter : Expr} {ifs : List Expr} {scope : Scope} {own : List (Str × Nat)} {fi : M (List D)} {bb : D → Env → Option Env} {gc : M Bool} {fe : M D} {vs : List Nat} {mk : O → O} (hc : X.calm = true) (hN : X.N.Nodup) (hBi : T.B i = none) (ok : BlkOk X.N X.env.scope scope own) (hv : vs = own.map (·.2)) (hB : ∀ i ∈ vs, T.B i = none)
    (hi : IV T X W tg iter fi)
    (hg : ∀ (s : Shared) (H : Hp) (C : Addr) (cl : List (Str × Addr)) (fp : List Addr), GC T (X.blk s H scope (compEnvC scope cl C X.env) fp) tg vs bb)
    (ht : ∀ (s : Shared) (H : Hp) (C : Addr) (cl : List (Str × Addr)) (fp : List Addr), CT T (X.blk s H scope (compEnvC scope cl C X.env) fp) W0 ifs gc)
    (he : ∀ (s : Shared) (H : Hp) (C : Addr) (cl : List (Str × Addr)) (fp : List Addr), EV T (X.blk s H scope (compEnvC scope cl C X.env) fp) W0 elt fe)
    (hsw : swapsWith (.ListComp elt [⟨tg, iter, ifs, 0⟩] scope pos) (some (.Name y py)) spos.line X.env = pure true)
    (hmk : mk = id ∨ mk = fun o => .val o.fz)
    (hy : X.N[i]? = some y := by rfl) (hyl : X.env.scope.names.lookup y = some .local := by rfl) (hs : ∀ x, foldedSetIterable iter X.env x = pure x := by intro _; rfl) :
    SV T X W (.Assign [.Name y py] (.ListComp elt [⟨tg, iter, ifs, 0⟩] scope pos) spos) (after (mcomp vs fi bb gc fe) fun o ρ => .nx (ρ.set i (some (mk o)))) := by
  intro r w σ H ρ D s p
  obtain ⟨wi, g, tt, te, pi, pg, pt, pe, k⟩ := lc_read hv hB hi hg ht he
  refine sS_of (ps_setLc hc hN hy hyl hsw pi ok pg pt pe hs) (k r w σ H ρ _ s (p.after' fun o ρ1 v H1 w1 s1 q1 e1 p1 => ?_))
  rcases hmk with rfl | rfl
  · exact p1 _ H1 _ (s1.setO q1 i hBi) (e1.mvIn s.tm)
  · exact p1 _ H1 _ (s1.frz.setV q1.frz i hBi) (e1.frz s.tm)
end
end Y
set_option Elab.async false
set_option maxRecDepth 100000
set_option linter.all false
/-! enumerate over a tuple. -/
namespace Y
open PySem L2
open PySem.Spec PyProof.Rows
section
open AutoSeq1 (wpAny_loadPart')
theorem enumT_new (t : Addr) (its : Array Value) (n : Nat) (dct : Option Addr) (sl : Array (Option Value)) :
    Meets (Builtin.«enumerate.__new__» ⟨[.type "enumerate", .ref t], []⟩) (fun _ R s => s.heap.get? t = some { cls := .type "tuple", dict := dct, data := .seq its n, slots := sl } ∧
      R (.ok (.ret (.ref (s.heap.push { cls := .type "tuple_iterator", data := .fields #[.ref t, .int 0 0] }).objs.size)))
        { s with heap := (s.heap.push { cls := .type "tuple_iterator", data := .fields #[.ref t, .int 0 0] }).push { cls := .type "enumerate", data := .fields #[.none, .bool false, .ref s.heap.objs.size, rawInt 0, .none, .none] } }) :=
  .of_wp fun prog w A R s h => by
    obtain ⟨hp, g, d, tk, os⟩ := s; obtain ⟨ht, h⟩ := h
    have hsub := sub_enumerate
    have hT : Heap.IsTuple (Shared.heap ⟨hp, g, d, tk, os⟩) t its := ⟨_, ht, rfl, n, rfl⟩
    wp_walk using wpAny_loadPart' ht
    refine wpAny_stack_any fun st => wpAny_pure ?_
    split
    · rename_i c _ _ _ _ _
      cases (c == Value.type "enumerate")
      · wp_walk using wpAny_loadPart' ht, wpAny_pyIter_tuple hT
        exact ⟨_, rfl, h⟩
      · wp_walk using wpAny_loadPart' ht, wpAny_pyIter_tuple hT
        exact ⟨_, rfl, h⟩
    · wp_walk using wpAny_loadPart' ht, wpAny_pyIter_tuple hT
      exact ⟨_, rfl, h⟩
end
section
variable {prog : Program} {w : World} {A : Around} {E : Value → Shared → Prop} {s : Shared}
theorem call_enumT {t : Addr} {its : Array Value} {Q : Value → Shared → Prop} (hT : s.heap.IsTuple t its)
    (h : ∀ h', IsEnum h' (s.heap.objs.size + 1) s.heap.objs.size 0 .none → h'.IsTupleIter s.heap.objs.size t 0 → h'.objs.size = s.heap.objs.size + 2 →
      (∀ b o, s.heap.get? b = some o → h'.get? b = some o) → Q (.ref (s.heap.objs.size + 1)) { s with heap := h' }) : wpAny (model prog w) A (call (.type "enumerate") [.ref t]) Q E s := by
  obtain ⟨⟨c, dct, dt, sl⟩, ht, hc, n, hd⟩ := hT
  obtain rfl : c = .type "tuple" := hc
  obtain rfl : dt = .seq its n := hd
  refine callType_new F.called_enumerate (by decide) (F.typeCall_enumerate_1 _) (F.newCall_enumerate_1 _) (fun obj => F.args_object_init_2 obj _) F.entry_enumerate_new (enumT_new t its n dct sl) ⟨ht, ?_⟩
  have hz : (s.heap.push { cls := .type "tuple_iterator", data := .fields #[.ref t, .int 0 0] }).objs.size = s.heap.objs.size + 1 := Heap.size_push ..
  show _ ∧ _
  rw [hz]
  have he : IsEnum ((s.heap.push { cls := .type "tuple_iterator", data := .fields #[.ref t, .int 0 0] }).push { cls := .type "enumerate", data := .fields #[.none, .bool false, .ref s.heap.objs.size, rawInt 0, .none, .none] }) (s.heap.objs.size + 1) s.heap.objs.size 0 .none := by
    have q := Heap.get?_push_size (s.heap.push { cls := .type "tuple_iterator", data := .fields #[.ref t, .int 0 0] }) (o := { cls := .type "enumerate", data := .fields #[.none, .bool false, .ref s.heap.objs.size, rawInt 0, .none, .none] }) rfl
    rw [hz] at q; exact q
  exact ⟨⟨_, he, rfl⟩, h _ he ⟨_, Heap.get?_push_of_some _ (Heap.get?_push_size _ rfl), rfl, rfl⟩ (by rw [Heap.size_push, hz]) fun b o x => Heap.get?_push_of_some _ (Heap.get?_push_of_some _ x)⟩
end
theorem next_enumT_end {prog : Program} {w : World} {A : Around} {E : Value → Shared → Prop} {s : Shared} {e it t : Addr} {i : Nat} {its : Array Value} {old : Value} {Q : Option Value → Shared → Prop} (hh : A.handled = none)
    (he : IsEnum s.heap e it i old) (hit : s.heap.IsTupleIter it t i) (ht : s.heap.IsTuple t its) (hx : its[i]? = none)
    (hQ : ∀ h', Heap.ExtBut it s.heap h' → Q none { s with heap := h' }) : wpAny (model prog w) A (pyNext (.ref e)) Q E s := by
  have hT : s.TypeIs (.ref e) "enumerate" := ⟨_, he, rfl⟩
  unfold pyNext
  refine wpAny_bind (wpAny_attempt (wpAny_callSpecial?_slot (name := Str.ofString "__next__") hT F.slot_enumerate_next
    (wpAny_call_entry F.slot_enumerate_next hT F.entry_enumerate_next ?_ (F.args_enumerate_next_1 _))))
  show wpAny _ _ (field (.ref e) 2 >>= _) _ _ _
  refine wpAny_bind (wpAny_field he rfl (x := .ref it) rfl (wpAny_bind (wpAny_nextOf_tuple_end hh hit ht hx fun h' x he' hx' => ?_)))
  obtain ⟨o, ho, hc⟩ := hx'
  exact wpAny_bind (wpAny_isInstance (T := "StopIteration") (b := true) ⟨o, ho, hc⟩ isSubtype_stop (wpAny_pure (hQ _ he')))
/-- the tuple at a, each item in a new pair -/
def ItET (K : PySem.W.Frag) (a : Addr) : It :=
  ⟨fun i H => ∃ (xs : List V) (x : V), SqT K H a xs ∧ xs[i]? = some x, fun i H v H' => ∃ p x, v = .ref p ∧ H p = none ∧ H' = upd H p (.tup [.int (i : Nat), x]) ∧ ∀ xs, SqT K H a xs → xs[i]? = some x, fun i H => ∃ xs : List V, SqT K H a xs ∧ xs.length ≤ i⟩
theorem turn_enumT {P : Program} {w : World} {K : PySem.W.Frag} {elts : List Expr} {kk : Nat} {tpos : Pos} (a e it : Addr) :
    Turn P w K (.Tuple elts kk tpos) (ItET K a) [e, it] e (fun i h => (∃ old, IsEnum h e it ((i : Nat) : Int) old) ∧ h.IsTupleIter it a i ∧ e ≠ it ∧ a ≠ it ∧ a ≠ e) where
  mem := List.mem_cons_self
  obj := fun i h st b hb => by
    obtain ⟨⟨old, he⟩, ⟨o, ho, hc, hd⟩, _⟩ := st
    rcases List.mem_cons.mp hb with rfl | hb
    · exact ⟨_, he, fun v q => nomatch q⟩
    · obtain rfl : b = it := by simpa using hb
      exact ⟨o, ho, fun v q => by rw [hd] at q; cases q⟩
  keep := fun i h h' st k => let ⟨⟨old, he⟩, hi, hne⟩ := st; ⟨⟨old, k e (by simp) _ he⟩, hi.at fun o q => k it (by simp) o q, hne⟩
  item := by
    intro X hP hw hK hc i pins s σ H E I hf st hg
    subst hP hw hK
    obtain ⟨⟨old, he⟩, hit, hne, hai, hae⟩ := st
    obtain ⟨xs, x, hq, hx⟩ := hg
    obtain ⟨its, rv, p, hz⟩ := I.tuple hq
    obtain ⟨u, hu, ru⟩ := rv.get hx
    have hel : e < s.heap.objs.size := Heap.lt_size he
    have hil : it < s.heap.objs.size := by obtain ⟨_, q, _⟩ := hit; exact Heap.lt_size q
    have hlt : i < its.toArray.size := by
      obtain ⟨z, _⟩ := List.getElem?_eq_some_iff.mp hu
      simpa using z
    have hh : X.A.in1.handled = none := I.ok.hd hc
    refine wpAny_pyNext_enum_itemD (Draws.tuple hh it a hai its.toArray) he ⟨hit, p⟩ hlt hne (by simp only [List.mem_cons, List.not_mem_nil, or_false, not_or]; exact ⟨hne, Ne.symm hae⟩) fun y h' tk hy ho st' hT hsz hk => ?_
    have hy' : y = u := by
      have hy2 : its[i]? = some y := by simpa using hy
      rw [hu] at hy2; exact (Option.some.inj hy2).symm
    subst hy'
    refine ⟨_, rfl, wpAny_letOwnedTupleGo_enum (s := { s with heap := h', toks := tk + 1 }) ho fun h'' he' sb => ?_⟩
    have hT2 : h''.get? s.heap.objs.size = some { cls := .type "tuple", data := .seq #[.int i tk, y] } := (sb.2 _ (Nat.ne_of_gt hel)).trans hT
    have new : ObjOk X.prog X.w (upd H s.heap.objs.size (.tup [.int (i : Nat), x])) h'' s.heap.objs.size (.tup [.int (i : Nat), x]) :=
      ⟨by show 2 ≤ sizeLine; decide, [.int i tk, y], .cons ⟨_, rfl⟩ (.cons ru .nil), ⟨_, hT2, rfl, _, rfl⟩⟩
    have I1 : Inv X pins σ (upd H s.heap.objs.size (.tup [.int (i : Nat), x])) { s with heap := h'', toks := tk + 1 } :=
      I.turnedNew (t' := tk + 1) (ch := [e, it]) (fun b ob hb q => (sb.2 b (fun z => hb (by simp [z]))).trans (hk b ob (fun z => hb (by simp [z])) (fun z => hb (by simp [z])) q)) hf (Nat.le_refl _) new
    refine ⟨.ref s.heap.objs.size, _, I1, rfl, ⟨_, x, rfl, I.hok.fresh (Nat.le_refl _), rfl, fun ys hy => by rw [I.tuple_inj hy hq]; exact hx⟩, ⟨⟨y, ?_⟩, st'.1.at fun o q => (sb.2 it (Ne.symm hne)).trans q, hne, hai, hae⟩, fun b hb => ?_⟩
    · have e1 : ((i + 1 : Nat) : Int) = (i : Int) + 1 := by omega
      rw [e1]; exact he'
    · have hb' : b < s.heap.objs.size := by
        rcases List.mem_cons.mp hb with rfl | hb
        · exact hel
        · obtain rfl : b = it := by simpa using hb
          exact hil
      rw [upd_ne (Nat.ne_of_lt hb')]
      exact (hf b hb).1
  done := by
    intro X hP hw hK hc i pins s σ H E I hf st hg
    subst hP hw hK
    obtain ⟨⟨old, he⟩, hit, hne, hai, hae⟩ := st
    obtain ⟨xs, hq, hx⟩ := hg
    obtain ⟨its, rv, p, hz⟩ := I.tuple hq
    obtain ⟨f0, f1, f2, f3, f4, f5⟩ := hf it (by simp)
    have hl := rv.length
    exact next_enumT_end (I.ok.hd hc) he hit p (by simp; omega) fun h' eb => ⟨rfl, I.turned (t' := s.toks) (fun b o hb q => eb b o hb q) f0 f1 f3 f4 f5⟩
  self := fun A i s Q E st h => let ⟨⟨_, he⟩, _⟩ := st; wpAny_pyIter_enum he h
def iEnumT (K : PySem.W.Frag) (ta : TA) : TI := fun σ H R => ta σ H fun vs H1 => ∃ a xs, vs = [.ref a] ∧ SqT K H1 a xs ∧ R (ItET K a) H1
theorem pi_enumT {X : Cx} {e : Expr} {ta : TA} {p pos tpos : Pos} {elts : List Expr} {kk : Nat} (hg : Gl X "enumerate") (hm : X.mg "enumerate" = none) (ha : PA X [e] ta) (hs : starEach [e] X.env = [(false, eval e X.env)] := by rfl) :
    PI X (.Tuple elts kk tpos) (.Call (.Name "enumerate" p) [e] [] pos) (iEnumT X.K ta) := by
  refine ⟨fun pins s σ H R I h => ?_⟩
  refine Call_ (ld_blt I hg hm boot_enumerate (PyProof.Rows.callWith_type1 (thn (ha.run pos pins s σ H _ I h) fun us s1 ⟨vs, H1, I1, r1, a, xs, ex, hq, q⟩ => ?_) hs rfl))
  subst ex
  obtain rfl := Vals.ref1 r1
  obtain ⟨its, rv, pt, hz⟩ := I1.tuple hq
  have hal : a < s1.heap.objs.size := by obtain ⟨o, z, _⟩ := pt; exact Heap.lt_size z
  refine call_enumT pt fun h' he hit hsz hk => wpAny_pyIter_enum he ?_
  have I2 : Inv X pins σ H1 { s1 with heap := h' } := I1.kept (t' := s1.toks) hk
  refine ⟨s1.heap.objs.size + 1, [s1.heap.objs.size + 1, s1.heap.objs.size], _, _, H1, rfl, I2, turn_enumT a (s1.heap.objs.size + 1) s1.heap.objs.size, ⟨⟨.none, he⟩, hit, Nat.succ_ne_self _, Nat.ne_of_lt hal, Nat.ne_of_lt (Nat.lt_succ_of_lt hal)⟩, fun b hb => ?_, q⟩
  have hle : s1.heap.objs.size ≤ b := by
    rcases List.mem_cons.mp hb with rfl | hb
    · exact Nat.le_add_right _ _
    · obtain rfl : b = _ := by simpa using hb
      exact Nat.le_refl _
  exact I1.fpOk hle (I1.hok.fresh hle)
/-! by values -/
def enumL (ds : List D) : List D := ds.zipIdx.map fun p => .nd .tup [.int (p.2 : Nat), p.1]
theorem enumL_get {ds : List D} {i : Nat} {d : D} (h : (enumL ds)[i]? = some d) : ∃ x, ds[i]? = some x ∧ d = .nd .tup [.int (i : Nat), x] := by
  unfold enumL at h
  rw [List.getElem?_map, List.getElem?_zipIdx] at h
  cases q : ds[i]? with
  | none => rw [q] at h; cases h
  | some x => rw [q] at h; simp at h; exact ⟨x, rfl, h.symm⟩
theorem enumL_length (ds : List D) : (enumL ds).length = ds.length := by unfold enumL; simp
section
variable {T : Tb} {X : Cx} {W : WX} {a : Expr} {pos q tpos : Pos} {elts : List Expr} {kk : Nat}
def ienum (f : M D) : M (List D) := mbind f fun d => mbind (mlift d.seq) fun ds => mret (enumL ds)
theorem iv_enum {f : M D} (hK : X.K = T.K) (hg : Gl X "enumerate") (hm : X.mg "enumerate" = none) (ha : EV T X W a f) (hs : starEach [a] X.env = [(false, eval a X.env)] := by rfl) (h1 : starEach [a] X.env = (false, eval a X.env) :: starEach [] X.env := by rfl) :
    IV T X W (.Tuple elts kk tpos) (.Call (.Name "enumerate" q) [a] [] pos) (ienum f) := by
  refine ⟨_, PI.or (pi_enum hg hm (pa_cons pe_s pa_nil h1) hs) (pi_enumT hg hm (pa_cons pe_s pa_nil h1) hs), fun r w σ H ρ R s p => ?_⟩
  unfold ienum mbind at p
  cases ef : f ρ with
  | er c ds ρ1 => rw [ef] at p; exact .inl (ha r w σ H ρ _ s (by rw [ef]; exact p))
  | stuck => rw [ef] at p; exact p.elim
  | ok z =>
    obtain ⟨d, ρ1⟩ := z
    rw [ef] at p
    dsimp only at p
    have go : ∀ {Q : VK}, (∀ x H1 w1, SR T r w1 σ H1 ρ1 → Rep T H1 w1 d x → Evo w H w1 H1 → Q x H1) → sE X a σ H Q := fun {Q} h => ha r w σ H ρ Q s (by rw [ef]; exact h)
    have pair : ∀ {w2 : Own} {H2 : Hp} {p : Addr} {v : V} {i : Nat} {x : D}, Fr w2 H2 → H2 p = none → Rep T H2 w2 x v → Same H2 (upd H2 p (.tup [.int (i : Nat), v])) ∧ Rep T (upd H2 p (.tup [.int (i : Nat), v])) w2 (.nd .tup [.int (i : Nat), x]) (.ref p) := fun fr hp rx =>
      ⟨same_upd hp, .newT (.cons (Rep.int_.mpr rfl) (.one rx)) hp (fr _ hp)⟩
    have lists : ∀ ds : List D, d.seq = some ds → d.lsq = some ds → sE X a σ H (fun x H1 => ∃ a xs, [x] = [.ref a] ∧ SqL X.K H1 a xs ∧ R (Ite X.K a) H1) := fun ds es el => go fun x H1 w1 s1 q1 ev => by
      obtain ⟨t, vs, rfl, at', hv⟩ := q1.lsq el
      refine ⟨t, vs, rfl, by rw [hK]; exact at', ?_⟩
      rw [es] at p
      refine p _ H1 w1 s1 (fun i w2 H2 e2 fr => ?_) ev
      obtain ⟨t', vs', et, at2, hv2⟩ := (q1.evo e2).lsq el
      cases et
      refine ⟨fun d' ed => ?_, fun hl => ⟨vs', by rw [hK]; exact at2, by rw [← hv2.length, ← enumL_length]; exact hl⟩⟩
      obtain ⟨x, ex, rfl⟩ := enumL_get ed
      obtain ⟨v, e3, rv⟩ := hv2.get ex
      refine ⟨⟨vs', v, by rw [hK]; exact at2, e3⟩, fun y H' ⟨p', v', e4, e5, e6, k⟩ => ?_⟩
      subst e4; subst e6
      have := k vs' (by rw [hK]; exact at2)
      rw [e3] at this; cases this
      exact pair fr e5 rv
    cases d with
    | nd k ds =>
      cases k with
      | lst => exact .inl (lists ds rfl rfl)
      | scr => exact .inl (lists ds rfl rfl)
      | tup =>
        refine .inr (go fun x H1 w1 s1 q1 ev => ?_)
        obtain ⟨t, vs, rfl, at', hv⟩ := Rep.node.mp q1
        refine ⟨t, vs, rfl, by rw [hK]; exact at'.tup, ?_⟩
        refine p _ H1 w1 s1 (fun i w2 H2 e2 fr => ?_) ev
        obtain ⟨t', vs', et, at2, hv2⟩ := Rep.node.mp (q1.evo e2)
        cases et
        refine ⟨fun d' ed => ?_, fun hl => ⟨vs', by rw [hK]; exact at2.tup, by rw [← hv2.length, ← enumL_length]; exact hl⟩⟩
        obtain ⟨x, ex, rfl⟩ := enumL_get ed
        obtain ⟨v, e3, rv⟩ := hv2.get ex
        refine ⟨⟨vs', v, by rw [hK]; exact at2.tup, e3⟩, fun y H' ⟨p', v', e4, e5, e6, k⟩ => ?_⟩
        subst e4; subst e6
        have := k vs' (by rw [hK]; exact at2.tup)
        rw [e3] at this; cases this
        exact pair fr e5 rv
      | dK ks => exact p.elim
      | dT ks => exact p.elim
      | obj c => exact p.elim
    | non => exact p.elim
    | bl _ => exact p.elim
    | int _ => exact p.elim
    | str _ => exact p.elim
end
end Y
set_option Elab.async false
set_option maxRecDepth 100000
set_option linter.all false
/-! The value layer: arguments changed in their places, keywords, repr, in. -/
namespace Y
open PySem L2
open PySem.Spec PyProof.Rows
section
variable {T : Tb} {X : Cx} {W : WX}
theorem SR.dropS {r : Nat} {w : Own} {σ : L2.St} {H : Hp} {ρ : Env} (s : SR T r w σ H ρ) (i : Nat) : SR T r w σ H (ρ.set i none) where
  ln := by rw [List.length_set]; exact s.ln
  sl := fun j o e => by
    rw [List.getElem?_set] at e
    by_cases h : i = j
    · subst h; rw [if_pos rfl] at e; split at e <;> cases e
    · rw [if_neg h] at e; exact s.sl j o e
  tm := s.tm
  dm := s.dm
  fx := s.fx
  pp := s.pp
/-- the tree of slot i behind a call -/
theorem SR.back {r r' : Nat} {w w' : Own} {σ : L2.St} {H H' : Hp} {ρ : Env} {i : Nat} {o1 : O} {u : V} (s : SR T r w σ H ρ) (eu : σ[i]? = some (some u)) (k : ∀ a v, (∀ π, w a ≠ some (.slot i, π)) → H a = some v → H' a = some v ∧ w' a = w a)
    (q : Owns T H' w' o1 u (.slot i, [])) (tm : ∀ a k π, w' a = some (.tmp k, π) → k < r') (dm : ∀ a t, w' a = some t → H' a ≠ none) : SR T r' w' σ H' (ρ.set i (some o1)) where
  ln := by rw [List.length_set]; exact s.ln
  sl := fun j o e => by
    rw [List.getElem?_set] at e
    by_cases h : i = j
    · subst h
      rw [if_pos rfl] at e
      split at e
      · cases e; exact ⟨u, eu, q⟩
      · cases e
    · rw [if_neg h] at e
      obtain ⟨v, e1, ow⟩ := s.sl j o e
      refine ⟨v, e1, ow.slot (fun a z hw hu => ?_) fun a z π hw hu => k a z (fun π' e => by rw [hw] at e; cases e; exact h rfl) hu⟩
      obtain ⟨z1, z2⟩ := k a z (fun π e => by rw [hw] at e; cases e) hu
      exact ⟨z1, z2.trans hw⟩
  tm := tm
  dm := dm
  fx := s.fx
  pp := T.pc _ _ _ _ (fun a u hw hu => by
    obtain ⟨z1, z2⟩ := k a u (fun π e => by rw [hw] at e; cases e) hu
    exact ⟨z1, z2.trans hw⟩) s.pp
def callAt (F : Mir) (i : Nat) (ds : List D) : M O := fun ρ => match ρ[i]? with
  | some (some o0) => (match F (o0 :: ds.map .val) with
    | .ok (o, o1) => .ok (o, ρ.set i (some o1))
    | .er c es _ => .er c es (ρ.set i none)
    | .stuck => .stuck)
  | _ => .stuck
theorem post_callAt {F : Mir} {n : Nat} {r : Nat} {w : Own} {σ : L2.St} {H : Hp} {ρ : Env} {ds : List D} {vs : List V} {u : V} {i : Nat} {Q : VK} (s : SR T r w σ H ρ) (eu : σ[i]? = some (some u)) (q : RepL T H w ds vs)
    (h : Post T W w H σ (r + 1) (fun H w o v => Owns T H w o v (.tmp r, [])) (callAt F i ds ρ) Q) (hn : vs.length + 1 = n) : spF T.o n true F (u :: vs) H Q (fun cls d H' => W cls d σ H') := by
  unfold callAt at h
  split at h
  · rename_i o0 e0
    obtain ⟨u', eu', ow⟩ := s.sl i o0 e0
    rw [eu] at eu'; cases eu'
    refine ⟨hn, _, _, entryO s.dm ow q, ?_⟩
    have st : ∀ {H' : Hp} {w' : Own}, Evo (cIn (some (.slot i)) w) H w' H' → ∀ a v, (∀ π, w a ≠ some (.slot i, π)) → H a = some v → H' a = some v ∧ cOut (some (.slot i)) r w w' a = w a := fun ev a v hn hv => call_stay (R := some (.slot i)) (r := r) ev a v (fun q π z => by cases z; exact hn π) hv
    have ev' : ∀ {H' : Hp} {w' : Own}, Evo (cIn (some (.slot i)) w) H w' H' → Evo w H (cOut (some (.slot i)) r w w') H' := fun ev a v hc hv => st ev a v (fun π e => by
      rcases hc with hc | ⟨k, π', hc⟩
      · rw [hc] at e; cases e
      · rw [hc] at e; cases e) hv
    revert h
    cases F (o0 :: ds.map .val) with
    | ok z =>
      obtain ⟨o, o1⟩ := z
      intro h v H' w' ow1 hb ev dm'
      exact h v H' (cOut (some (.slot i)) r w w') (s.back eu (st ev) (call_arg (hb rfl u rfl)) (call_tm s.tm fun k z => by cases z) (call_dm dm')) (call_ans ow1) (ev' ev)
    | er c es ρ' =>
      intro h cls dd H' w' x ev dm'
      refine h (r + 1) cls dd H' (cOut (some (.slot i)) r w w') ?_ (call_exc x) (ev' ev)
      have sd := s.dropS i
      refine ⟨sd.ln, fun j o e => ?_, call_tm s.tm (fun k z => by cases z), call_dm dm', s.fx, T.pc _ _ _ _ (fun a u hw hu => by
        obtain ⟨z1, z2⟩ := st ev a u (fun π e => by rw [hw] at e; cases e) hu
        exact ⟨z1, z2.trans hw⟩) s.pp⟩
      have hij : i ≠ j := fun z => by
        subst z
        rw [List.getElem?_set] at e
        rw [if_pos rfl] at e
        split at e <;> cases e
      obtain ⟨v, e1, ow2⟩ := sd.sl j o e
      refine ⟨v, e1, ow2.slot (fun a z hw hu => ?_) fun a z π hw hu => st ev a z (fun π' e => by rw [hw] at e; cases e; exact hij rfl) hu⟩
      obtain ⟨z1, z2⟩ := st ev a z (fun π e => by rw [hw] at e; cases e) hu
      exact ⟨z1, z2.trans hw⟩
    | stuck => exact fun h => h
  · exact h.elim
variable {x : Str} {p pos px : Pos} {a e : Expr} {es : List Expr} {fs : M (List D)} {F : Mir} {k n : Nat} {f : Addr} {fd : FuncData} {ps : List Str}
/-- f(x, e, ..): x's tree is changed in its place -/
def mcallR (F : Mir) (i : Nat) (fs : M (List D)) : M O := fun ρ => match ρ[i]? with
  | some (some _) => mbind fs (fun ds => callAt F i ds) ρ
  | _ => .stuck
theorem eo_callR {i : Nat} {y : Str} (tk : Takes X W) (G : FnG X.prog X.w X.K X.mg X.base k f fd ps (spF T.o n true F)) (hr : Room k X.A) (hgd : X.A.guards = some []) (hg : Gl X x) (hm : X.mg x = some (.ref f)) (hk : PySem.W.keepIn X.K (.ref f) = true) (hb : Binds X.K fd ps []) (ha : AV T X W es fs)
    (hN : X.N[i]? = some y := by rfl) (hv : Vis X.env.scope y := by first | exact Or.inl rfl | exact Or.inr (Or.inl rfl) | exact Or.inr (Or.inr rfl)) (hd : (y == ("__debug__" : Str)) = false := by decide) (hcd : (y == ("__classdict__" : Str)) = false := by decide)
    (hn : es.length + 1 = n := by rfl) (hdb : (x == ("__debug__" : Str)) = false := by decide) (he : starEach (.Name y px :: es) X.env = (false, eval (.Name y px) X.env) :: starEach es X.env := by rfl) (hpl : (backTo pos (starEach es X.env)).any (·.1) = false := by rfl) :
    EO T X W (.Call (.Name x p) (.Name y px :: es) [] pos) (mcallR F i fs) := by
  intro r w σ H ρ Q s po
  unfold sE
  intro pins sh I
  unfold mcallR at po
  split at po
  · rename_i o0 e0
    obtain ⟨u, eu, _⟩ := s.sl i o0 e0
    refine wpAny_Call_Name_kw (ld_glob I hg hm ?_ hdb)
    have main : sA X (.Name y px :: es) σ H (fun vs H1 => spF T.o n true F vs H1 Q (fun cls d H' => W cls d σ H')) := by
      refine sA_of (pa_cons (pe_var hN hv hd hcd) pa_s he) ⟨u, eu, ?_⟩
      refine ha.run r w σ H ρ _ s ?_
      have hfn := ha.len ρ
      unfold mbind at po
      revert po
      cases e : fs ρ with
      | ok z =>
        obtain ⟨ds, ρ1⟩ := z
        intro po vs H1 w1 s1 q1 ev
        refine post_callAt (r := r) (i := i) s1 eu q1 ?_ (by rw [← q1.length, hfn ds ρ1 e]; exact hn)
        revert po
        dsimp only
        cases callAt F i ds ρ1 with
        | ok z => exact fun po b H' w' s' q' e' => po b H' w' s' q' (ev.trans e')
        | er c es ρ' => exact fun po r' cls dd H' w' s' q' e' => po r' cls dd H' w' s' q' (ev.trans e')
        | stuck => exact fun po => po
      | er c ds ρ1 => exact fun po => po
      | stuck => exact fun po => po
    refine PySem.W.callWith_K (h₀ := X.base) I.ok.mod.kin hk (thn (pa_s.run pos pins sh _ _ _ I main) fun us s1 ⟨vs, H1, I1, rv, q⟩ => ⟨I1.kIn, ?_⟩) he hpl
    refine call_g tk G hr hgd I1 (ws := us ++ []) (hb s1 us I1.kIn ?_) (by simpa using rv) q
    rw [List.append_nil, ← rv.length]
    exact G.len _ _ _ _ q
  · exact po.elim
/-! ### keywords alone -/
def ro {α : Type} (pm : List Nat) (l : List α) : List α := pm.filterMap fun i => l[i]?
theorem ro_cons {α : Type} (i : Nat) (pm : List Nat) (l : List α) : ro (i :: pm) l = (match l[i]? with | some x => x :: ro pm l | none => ro pm l) := by
  unfold ro; rw [List.filterMap_cons]
  cases l[i]? <;> rfl
theorem RepL.ro {w : Own} {H : Hp} {ds : List D} {vs : List V} (h : RepL T H w ds vs) : ∀ pm : List Nat, RepL T H w (Y.ro pm ds) (Y.ro pm vs)
  | [] => .nil
  | i :: pm => by
    rw [ro_cons, ro_cons]
    cases e : ds[i]? with
    | some d =>
      obtain ⟨v, ev, rv⟩ := h.get e
      rw [ev]
      exact .cons rv (RepL.ro h pm)
    | none =>
      have : vs[i]? = none := by
        rw [List.getElem?_eq_none_iff] at e ⊢
        rw [← h.length]; exact e
      rw [this]
      exact RepL.ro h pm
theorem vals_ro {vs : List V} {us : List Value} (h : Vals vs us) : ∀ pm : List Nat, Vals (Y.ro pm vs) (Y.ro pm us)
  | [] => .nil
  | i :: pm => by
    rw [ro_cons, ro_cons]
    cases e : vs[i]? with
    | some v =>
      obtain ⟨u, eu, ru⟩ := h.get e
      rw [eu]
      exact .cons ru (vals_ro h pm)
    | none =>
      rw [h.none_of e]
      exact vals_ro h pm
def sK (X : Cx) (kws : List Keyword) : TA := fun σ H Q => ∀ (pos : Pos) (pins : List (Addr × Obj)) (s : Shared), Inv X pins σ H s → wpAny (model X.prog X.w) X.A (evalAll ((backToKw pos (keywordEach kws X.env)).map (·.2))) (AP X pins σ Q) X.xe s
structure KV' (T : Tb) (X : Cx) (W : WX) (kws : List Keyword) (f : M (List D)) : Prop where
  len : ∀ ρ ds ρ', f ρ = .ok (ds, ρ') → ds.length = kws.length
  run : ∀ r w σ H ρ Q, SR T r w σ H ρ → Post T W w H σ r (RepL T) (f ρ) Q → sK X kws σ H Q
theorem kv_nil : KV' T X W [] (mret []) := ⟨fun ρ ds ρ' e => by cases e; rfl, fun _ _ _ H _ _ s p pos pins sh I => (pk_nil (X := X)).run pos pins sh _ H _ I (p.ret s .nil)⟩
theorem kv_cons {kws : List Keyword} {nm : Option Str} {kpos : Pos} {fa : M D} (ha : EV T X W a fa) (hr : KV' T X W kws fs) : KV' T X W (⟨nm, a, kpos⟩ :: kws) (mcons fa fs) := by
  refine ⟨fun ρ ds ρ' e => ?_, fun r w σ H ρ Q s p pos pins sh I => ?_⟩
  · unfold mcons mbind at e
    cases ef : fa ρ with
    | ok q =>
      rw [ef] at e
      dsimp only at e
      cases eg : fs q.2 with
      | ok q2 =>
        rw [eg] at e
        cases e
        rw [List.length_cons, List.length_cons, hr.len _ _ _ eg]
      | er c ds ρ1 => rw [eg] at e; cases e
      | stuck => rw [eg] at e; cases e
    | er c ds ρ1 => rw [ef] at e; cases e
    | stuck => rw [ef] at e; cases e
  · have pk : PK X (⟨nm, a, kpos⟩ :: kws) (tCons (sE X a) (sK X kws)) := pk_cons pe_s ⟨fun pos pins s σ H Q I h => h pos pins s I⟩
    refine pk.run pos pins sh σ H _ I ?_
    refine ha r w σ H ρ _ s (p.bind fun a ρ1 x H1 w1 s1 q1 e1 p1 => ?_)
    refine hr.run r w1 σ H1 ρ1 _ s1 (p1.bind fun b ρ2 y H2 w2 s2 q2 e2 p2 => ?_)
    exact p2.ret s2 (.cons (q1.evo e2) q2)
def mcallK (F : Mir) (pm : List Nat) (fs : M (List D)) : M O := mcall F (mbind fs fun ds => mret (ro pm ds))
theorem eo_callK {kws : List Keyword} {ks : List Str} {pm : List Nat} (tk : Takes X W) (G : FnG X.prog X.w X.K X.mg X.base k f fd ps (spF T.o n false F)) (hr : Room k X.A) (hgd : X.A.guards = some []) (hg : Gl X x) (hm : X.mg x = some (.ref f)) (hk : PySem.W.keepIn X.K (.ref f) = true)
    (hb : ∀ (s : Shared) (ws : List Value), X.K.In s.heap → ws.length = kws.length → BindsTo s fd ⟨[], ks.zip ws⟩ (ps.zip (ro pm ws))) (ha : KV' T X W kws fs)
    (hn : ∀ ds : List D, ds.length = kws.length → (ro pm ds).length = n) (hall : (backToKw pos (keywordEach kws X.env)).all (·.1.isSome) = true := by rfl) (hks : (backToKw pos (keywordEach kws X.env)).filterMap (·.1) = ks := by rfl)
    (hdb : (x == ("__debug__" : Str)) = false := by decide) (hpl : ((backTo pos (starEach [] X.env)).any (·.1) || (backToKw pos (keywordEach kws X.env)).any (·.1.isNone)) = false := by rfl) :
    EO T X W (.Call (.Name x p) [] kws pos) (mcallK F pm fs) := by
  intro r w σ H ρ Q s po
  unfold sE
  intro pins sh I
  refine wpAny_Call_Name_kw (ld_glob I hg hm ?_ hdb)
  have main : sK X kws σ H (fun vs H1 => vs.length = kws.length ∧ spF T.o n false F (ro pm vs) H1 Q (fun cls d H' => W cls d σ H')) := by
    refine ha.run r w σ H ρ _ s ?_
    have hfn := ha.len ρ
    unfold mcallK mcall mbind at po
    revert po
    cases e : fs ρ with
    | ok z =>
      obtain ⟨ds, ρ1⟩ := z
      intro po vs H1 w1 s1 q1 ev
      have hl := hfn ds ρ1 e
      refine ⟨by rw [← q1.length]; exact hl, post_call (r := r) s1 (q1.ro pm) ?_ (by rw [← (q1.ro pm).length]; exact hn ds hl)⟩
      revert po
      dsimp only [mret]
      cases F ((ro pm ds).map .val) with
      | ok z => exact fun po b H' w' s' q' e' => po b H' w' s' q' (ev.trans e')
      | er c es ρ' => exact fun po r' cls dd H' w' s' q' e' => po r' cls dd H' w' s' q' (ev.trans e')
      | stuck => exact fun po => po
    | er c ds ρ1 => exact fun po => po
    | stuck => exact fun po => po
  refine PySem.W.callWith_KW0 (h₀ := X.base) I.ok.mod.kin hk hall (thn (main pos pins sh I) fun us s1 ⟨vs, H1, I1, rv, hl, q⟩ => ⟨I1.kIn, ?_⟩) hpl
  rw [hks]
  exact call_g tk G hr hgd I1 (hb s1 us I1.kIn (by rw [← rv.length]; exact hl)) (vals_ro rv pm) q
/-! ### a tree is frozen in its place, or moved out -/
def frzP (i : Nat) (π : List Nat) (w : Own) : Own := fun a => match w a with
  | some (.slot j, s) => if j = i ∧ π <+: s then none else some (.slot j, s)
  | t => t
theorem frzP_none {i : Nat} {π : List Nat} {w : Own} {a : Addr} (h : w a = none) : frzP i π w a = none := by unfold frzP; rw [h]
theorem frzP_in {i : Nat} {π s : List Nat} {w : Own} {a : Addr} (h : w a = some (.slot i, π ++ s)) : frzP i π w a = none := by unfold frzP; rw [h]; exact if_pos ⟨rfl, s, rfl⟩
theorem frzP_out {i : Nat} {π : List Nat} {w : Own} {a : Addr} (h : ∀ s, w a ≠ some (.slot i, π ++ s)) : frzP i π w a = w a := by
  unfold frzP
  split
  · rename_i j s e
    rw [if_neg, e]
    rintro ⟨rfl, s', rfl⟩
    exact h s' e
  · rfl
theorem frzP_some {i : Nat} {π : List Nat} {w : Own} {a : Addr} {t : Tag} (h : frzP i π w a = some t) : w a = some t := by
  unfold frzP at h
  split at h
  · rename_i j s e
    split at h
    · cases h
    · rw [e]; exact h
  · exact h
def mpfz (f : Env → Option (Nat × List Nat)) : M D := fun ρ => match f ρ with
  | some p => (match atP ρ p with
    | some o => .ok (o.fz, putE ρ p.1 p.2 (.val o.fz))
    | none => .stuck)
  | none => .stuck
theorem ev_pfz {fp : Env → Option (Nat × List Nat)} (ha : PL T X a fp) : EV T X W a (mpfz fp) := by
  intro r w σ H ρ Q s p
  unfold mpfz at p
  split at p
  · rename_i q eq
    split at p
    · rename_i o eo
      refine ha r w σ H ρ _ s ⟨q.1, q.2, o, eq, eo, fun v pl => ?_⟩
      have rep : Rep T H (frzP q.1 q.2 w) o.fz v := Owns.thaw (fun a u hw hu => ⟨hu, frzP_none hw⟩) o v _ (fun a u s hw hu => ⟨hu, frzP_in hw⟩) pl.owns
      refine p v H (frzP q.1 q.2 w) (s.put pl (fun a u h hu => ⟨hu, frzP_out h⟩) (Owns.val.mpr rep) (fun a k π e => s.tm a k π (frzP_some e)) fun a t e => s.dm a t (frzP_some e)) rep fun a u hc hu => ⟨hu, frzP_out fun z e => ?_⟩
      rcases hc with hc | ⟨k, π', hc⟩
      · rw [hc] at e; cases e
      · rw [hc] at e; cases e
    · exact p.elim
  · exact p.elim
def mvOut (i r : Nat) (w : Own) : Own := fun a => match w a with
  | some (.slot j, s) => if j = i then some (.tmp r, s) else some (.slot j, s)
  | t => t
theorem mvOut_none {i r : Nat} {w : Own} {a : Addr} (h : w a = none) : mvOut i r w a = none := by unfold mvOut; rw [h]
theorem mvOut_in {i r : Nat} {s : List Nat} {w : Own} {a : Addr} (h : w a = some (.slot i, s)) : mvOut i r w a = some (.tmp r, s) := by unfold mvOut; rw [h]; exact if_pos rfl
theorem mvOut_ne {i j r : Nat} {s : List Nat} {w : Own} {a : Addr} (h : w a = some (.slot j, s)) (e : j ≠ i) : mvOut i r w a = some (.slot j, s) := by unfold mvOut; rw [h]; exact if_neg e
theorem mvOut_tmp {i r k : Nat} {s : List Nat} {w : Own} {a : Addr} (h : w a = some (.tmp k, s)) : mvOut i r w a = some (.tmp k, s) := by unfold mvOut; rw [h]
theorem mvOut_some {i r : Nat} {w : Own} {a : Addr} {t : Tag} (h : mvOut i r w a = some t) : (∃ t', w a = some t') ∧ ∀ k π, t = (.tmp k, π) → k = r ∨ w a = some (.tmp k, π) := by
  cases q : w a with
  | none => rw [mvOut_none q] at h; cases h
  | some t' =>
    obtain ⟨rt, s⟩ := t'
    cases rt with
    | tmp k => rw [mvOut_tmp q] at h; cases h; exact ⟨⟨_, rfl⟩, fun k π e => by cases e; exact .inr rfl⟩
    | slot j =>
      by_cases e : j = i
      · subst e; rw [mvOut_in q] at h; cases h; exact ⟨⟨_, rfl⟩, fun k π e => by cases e; exact .inl rfl⟩
      · rw [mvOut_ne q e] at h; cases h; exact ⟨⟨_, rfl⟩, fun k π e => by cases e⟩
def mmv (i : Nat) : M O := fun ρ => match ρ[i]? with
  | some (some o) => .ok (o, ρ.set i none)
  | _ => .stuck
theorem eo_mv {i : Nat} {y : Str} {py : Pos} (hN : X.N[i]? = some y := by rfl) (hv : Vis X.env.scope y := by first | exact Or.inl rfl | exact Or.inr (Or.inl rfl) | exact Or.inr (Or.inr rfl)) (hd : (y == ("__debug__" : Str)) = false := by decide) (hcd : (y == ("__classdict__" : Str)) = false := by decide) : EO T X W (.Name y py) (mmv i) := by
  intro r w σ H ρ Q s p
  unfold mmv at p
  split at p
  · rename_i o eo
    obtain ⟨u, eu, ow⟩ := s.sl i o eo
    refine sE_of (pe_var hN hv hd hcd) ⟨u, eu, ?_⟩
    refine p u H (mvOut i r w) ⟨(s.dropS i).ln, fun j o' e => ?_, fun a k π e => ?_, fun a t e => ?_, s.fx, T.pc _ _ _ _ (fun a u hw hu => ⟨hu, mvOut_none hw⟩) s.pp⟩ (Owns.frame (fun a z hw hu => ⟨hu, mvOut_none hw⟩) o u _ _ (fun a z s hw hu => ⟨hu, mvOut_in hw⟩) ow) fun a z hc hu => ⟨hu, ?_⟩
    · have hij : i ≠ j := fun z => by
        subst z
        rw [List.getElem?_set] at e
        rw [if_pos rfl] at e
        split at e <;> cases e
      obtain ⟨v, e1, ow2⟩ := (s.dropS i).sl j o' e
      exact ⟨v, e1, Owns.frame (fun a z hw hu => ⟨hu, mvOut_none hw⟩) o' v _ _ (fun a z s hw hu => ⟨hu, mvOut_ne hw (Ne.symm hij)⟩) ow2⟩
    · rcases (mvOut_some e).2 k π rfl with z | z
      · rw [z]; exact Nat.lt_succ_self r
      · exact Nat.lt_succ_of_lt (s.tm a k π z)
    · obtain ⟨t', e'⟩ := (mvOut_some e).1; exact s.dm a t' e'
    · rcases hc with hc | ⟨k, π', hc⟩
      · rw [hc]; exact mvOut_none hc
      · rw [hc]; exact mvOut_tmp hc
  · exact p.elim
/-! ### in -/
def D.fl : D → Option V
  | .non => some .non
  | .bl b => some (.bl b)
  | .int i => some (.int i)
  | .str x => some (.str x)
  | .nd _ _ => none
theorem Rep.fl {w : Own} {H : Hp} {d : D} {v x : V} (h : Rep T H w d v) (e : d.fl = some x) : v = x ∧ flatV v = true := by
  cases d with
  | non => rw [Rep.non_] at h; subst h; cases e; exact ⟨rfl, rfl⟩
  | bl b => rw [Rep.bl_] at h; subst h; cases e; exact ⟨rfl, rfl⟩
  | int b => rw [Rep.int_] at h; subst h; cases e; exact ⟨rfl, rfl⟩
  | str b => rw [Rep.str_] at h; subst h; cases e; exact ⟨rfl, rfl⟩
  | nd k ds => cases e
def flL : List D → Option (List V)
  | [] => some []
  | d :: ds => match d.fl, flL ds with
    | some v, some vs => some (v :: vs)
    | _, _ => none
theorem RepL.fl {w : Own} {H : Hp} : ∀ {ds : List D} {vs xs : List V}, RepL T H w ds vs → flL ds = some xs → vs = xs ∧ vs.all flatV = true
  | [], vs, xs, h, e => by simp only [RepL] at h; cases e; subst h; exact ⟨rfl, rfl⟩
  | d :: ds, vs, xs, h, e => by
    simp only [RepL] at h
    obtain ⟨v, ws, rfl, r, h⟩ := h
    simp only [flL] at e
    split at e
    · rename_i x ys e1 e2
      cases e
      obtain ⟨rfl, f1⟩ := r.fl e1
      obtain ⟨rfl, f2⟩ := RepL.fl h e2
      exact ⟨rfl, by rw [List.all_cons, f1, f2]; rfl⟩
    · cases e
def inD (neg : Bool) (a b : D) : Option D := match a.fl, b.seq.bind flL with
  | some x, some xs => some (.bl (if neg then !inV x xs else inV x xs))
  | _, _ => none
theorem inD_ok {neg : Bool} : R2D T (rIn T.K neg) (inD neg) := by
  intro w H a b d x y Q fr e ha hb k
  unfold inD at e
  split at e
  · rename_i v vs e1 e2
    simp only [Option.bind_eq_some_iff] at e2
    obtain ⟨ds, e2, e3⟩ := e2
    cases e
    obtain ⟨rfl, f1⟩ := ha.fl e1
    obtain ⟨p, us, rfl, hs, hl⟩ := hb.seq e2
    obtain ⟨rfl, f2⟩ := hl.fl e3
    exact ⟨p, us, rfl, hs, f1, f2, k _ H (.refl H) (Rep.bl_.mpr rfl)⟩
  · cases e
/-! ### repr -/
def shownOk (p : PyData) : Bool := p.showable && !p.hasDict && decide (p.depth ≤ 60) && decide (p.shown.length ≤ sizeLine)
def reprD : List D → Option D
  | [d] => d.py.bind fun p => if shownOk p = true then some (.str p.shown) else none
  | _ => none
def rRepr (K : PySem.W.Frag) : List V → Hp → VK → Prop := fun xs H Q => ∃ x p, xs = [x] ∧ Dp K H x p ∧ shownOk p = true ∧ Q (.str p.shown) H
theorem call_repr (hu : X.A.units + 64 < cLine) (hgd : X.A.guards = some []) : CallR X (.builtin "repr") (rRepr X.K) := by
  intro pins s σ H xs us Q I r h
  obtain ⟨x, p, rfl, hp, ok, q⟩ := h
  obtain ⟨u, rfl, ru⟩ := vals1 r
  simp only [shownOk, Bool.and_eq_true, Bool.not_eq_true', decide_eq_true_eq] at ok
  obtain ⟨⟨⟨o1, o2⟩, o3⟩, o4⟩ := ok
  cases hp with
  | non => cases ru; exact PySem.P.repr_of_none ⟨.str _, H, I.tok _, ⟨_, rfl⟩, q⟩
  | bl b => cases ru; exact PySem.P.repr_of_bool ⟨.str _, H, I.tok _, ⟨_, rfl⟩, by simpa only [PyData.shown] using q⟩
  | int i => obtain ⟨t, rfl⟩ := ru; exact PySem.P.repr_of_int (by simpa [PyData.showable] using o1) ⟨.str _, H, I.tok _, ⟨_, rfl⟩, by simpa only [PyData.shown] using q⟩
  | str z => obtain ⟨t, rfl⟩ := ru; exact PySem.P.repr_of_str ⟨.str _, H, I.tok _, ⟨_, rfl⟩, by simpa only [PyData.shown] using q⟩ (by simpa only [PyData.shown] using o4)
  | @lst a vs ds h1 h2 =>
    cases ru
    obtain ⟨as, rd⟩ := Dp.reads I _ _ _ (.lst h1 h2) rfl
    exact repr_of_reads' rd o1 (PyData.noDict_hsm o2) hgd (by omega) (fun _ _ e => e) (fun h' u tk hk => ⟨.str _, H, I.kept (h' := h') (t' := tk) hk, ⟨_, rfl⟩, q⟩) o4
  | @tup a vs ds h1 h2 =>
    cases ru
    obtain ⟨as, rd⟩ := Dp.reads I _ _ _ (.tup h1 h2) rfl
    exact repr_of_reads' rd o1 (PyData.noDict_hsm o2) hgd (by omega) (fun _ _ e => e) (fun h' u tk hk => ⟨.str _, H, I.kept (h' := h') (t' := tk) hk, ⟨_, rfl⟩, q⟩) o4
theorem reprD_ok : RLD T (rRepr T.K) reprD := by
  intro w H as d xs Q fr e h k
  unfold reprD at e
  split at e
  · rename_i d'
    simp only [RepL] at h
    obtain ⟨v, ws, rfl, r, rfl⟩ := h
    simp only [Option.bind_eq_some_iff] at e
    obtain ⟨p, e1, e2⟩ := e
    split at e2
    · rename_i ok
      cases e2
      exact ⟨v, p, rfl, Rep.dp _ _ _ r e1, ok, k _ H (.refl H) (Rep.str_.mpr rfl)⟩
    · cases e2
  · cases e
end
end Y
set_option Elab.async false
set_option maxRecDepth 100000
set_option linter.all false
/-! The value layer: exceptions. -/
namespace Y
open PySem L2
open PySem.Spec PyProof.Rows
/-! ### own exception classes: __init__ keeps its parameters -/
def spI1 (K : PySem.W.Frag) (f : Str) : Sp := fun vs H Q _ => ∃ a C x, vs = [.ref a, x] ∧ H a = some (exo a C none) ∧ OexC K C ∧ PySem.W.findIn K (.ref C) f = some none ∧ ∀ dx, H dx = none → dx ≠ a → Q .non (upd (upd H dx (exd dx [(f, x)])) a (exo a C (some dx)))
def spI2 (K : PySem.W.Frag) (f g : Str) : Sp := fun vs H Q _ => ∃ a C x y, vs = [.ref a, x, y] ∧ H a = some (exo a C none) ∧ OexC K C ∧ PySem.W.findIn K (.ref C) f = some none ∧ PySem.W.findIn K (.ref C) g = some none ∧
  ∀ dx, H dx = none → dx ≠ a → Q .non (upd (upd (upd H dx (exd dx [(f, x)])) a (exo a C (some dx))) dx (exd dx [(g, y), (f, x)]))
section
variable {P : Program} {w : World} {K : PySem.W.Frag} {mg : Str → Option Value} {base : Heap}
theorem ok_i1 {qual f p : Str} {st : Stmt} {fI : Addr} {fd : FuncData} {p1 p2 p3 p4 : Pos} (F : Fun K "__init__" qual st fI fd) (S : FnScope ["self", p] ["self", p] (defScope st))
    (hb : defBody st = [.Assign [.Attribute (.Name "self" p1) f p2] (.Name p p3) p4]) (hd : (p == ("__debug__" : Str)) = false := by decide) (hcd : (p == ("__classdict__" : Str)) = false := by decide) :
    FnOk P w K mg base CX0 1 fI fd ["self", p] (spI1 K f) := by
  refine F.ok S (fun vs H Q E h => ?_) (fun cdv A outer s H vs Q E hr h => ?_)
  · obtain ⟨a, C, x, rfl, _⟩ := h; rfl
  · obtain ⟨a, C, x, rfl, hA, T, hno, k⟩ := h
    have v0 : Vis (defScope st) "self" := (S.par "self" (by simp)).imp id Or.inl
    have v1 : Vis (defScope st) p := (S.par p (by simp)).imp id Or.inl
    rw [hb]
    refine ⟨_, pss_one (ps_ost (pe_var (i := 0) rfl v0) (pe_var (i := 1) rfl v1 hd hcd)), ?_⟩
    exact ⟨x, rfl, _, rfl, a, C, rfl, T, hno, .inl ⟨hA, fun dx h1 h2 => k dx h1 h2⟩⟩
theorem ok_i2 {qual f g p q : Str} {st : Stmt} {fI : Addr} {fd : FuncData} {p1 p2 p3 p4 p5 p6 p7 p8 : Pos} (F : Fun K "__init__" qual st fI fd) (S : FnScope ["self", p, q] ["self", p, q] (defScope st))
    (hb : defBody st = [.Assign [.Attribute (.Name "self" p1) f p2] (.Name p p3) p4, .Assign [.Attribute (.Name "self" p5) g p6] (.Name q p7) p8])
    (hd : (p == ("__debug__" : Str)) = false := by decide) (hcd : (p == ("__classdict__" : Str)) = false := by decide) (hd' : (q == ("__debug__" : Str)) = false := by decide) (hcd' : (q == ("__classdict__" : Str)) = false := by decide) :
    FnOk P w K mg base CX0 1 fI fd ["self", p, q] (spI2 K f g) := by
  refine F.ok S (fun vs H Q E h => ?_) (fun cdv A outer s H vs Q E hr h => ?_)
  · obtain ⟨a, C, x, y, rfl, _⟩ := h; rfl
  · obtain ⟨a, C, x, y, rfl, hA, T, hno, hno2, k⟩ := h
    have v0 : Vis (defScope st) "self" := (S.par "self" (by simp)).imp id Or.inl
    have v1 : Vis (defScope st) p := (S.par p (by simp)).imp id Or.inl
    have v2 : Vis (defScope st) q := (S.par q (by simp)).imp id Or.inl
    rw [hb]
    refine ⟨_, pss_cons (ps_ost (pe_var (i := 0) rfl v0) (pe_var (i := 1) rfl v1 hd hcd)) (pss_one (ps_ost (pe_var (i := 0) rfl v0) (pe_var (i := 2) rfl v2 hd' hcd'))), ?_⟩
    refine ⟨x, rfl, _, rfl, a, C, rfl, T, hno, .inl ⟨hA, fun dx h1 h2 => ?_⟩⟩
    exact ⟨y, rfl, _, rfl, a, C, rfl, T, hno2, .inr ⟨dx, [(f, x)], upd_same, by rw [upd_ne h2, upd_same], by simp, k dx h1 h2⟩⟩
end
/-! ### raise C(..) -/
def sraise (c : Nat) (fs : M (List D)) : MS := after fs fun ds ρ => .er c ds ρ
section
variable {T : Tb} {X : Cx} {W : WX}
theorem exc_laid {c : Nat} {ds : List D} {vs : List V} {w : Own} {H : Hp} {d : Addr} {fs : List (Str × V)} {r : Nat} {σ : L2.St} {ρ : Env} {H' : Hp} (s : SR T r w σ H ρ) (q : RepL T H w ds vs) (hd : H d = none) (eH : H' = upd H d (.xd fs)) (hl : vs.length = (T.fl c).length)
    (hf : ∀ (i : Nat) (f : Str), (T.fl c)[i]? = some f → fs.lookup f = vs[i]?) : SR T r w σ H' ρ ∧ Exc T H' w c ds (.ref (T.C c)) (some d) ∧ Evo w H w H' := by
  subst eH
  have sm : Same H (upd H d (.xd fs)) := same_upd hd
  exact ⟨s.same sm, ⟨rfl, d, fs, vs, rfl, upd_same, s.fresh hd, q.same sm, hl, hf⟩, .same sm⟩
theorem sv_raise1 {x f : Str} {c : Nat} {C fI : Addr} {fd : FuncData} {ps : List Str} {k : Nat} {e : Expr} {fs : M (List D)} {p p2 pos : Pos} (hKT : X.K = T.K) (hc : X.calm = true) (tk : Takes X W) (hC : T.C c = C) (hfl : T.fl c = [f])
    (O : OexC X.K C) (iC : PySem.W.findIn X.K (.ref C) "__init__" = some (some (.ref fI))) (tI : PySem.W.typeIn X.K (.ref fI) = some (.type "function")) (hno : PySem.W.findIn X.K (.ref C) f = some none)
    (F1 : FnOk X.prog X.w X.K X.mg X.base CX0 k fI fd ps (spI1 X.K f)) (hr : Room (k + 1) X.A) (hb : Binds X.K fd ps []) (hg : Gl X x) (hm : X.mg x = some (.ref C)) (ha : AV T X W [e] fs)
    (hdb : (x == ("__debug__" : Str)) = false := by decide) (he : starEach [e] X.env = (false, eval e X.env) :: starEach [] X.env := by rfl) (hpl : (backTo p2 (starEach [] X.env)).any (·.1) = false := by rfl) :
    SV T X W (.Raise (some (.Call (.Name x p) [e] [] p2)) none pos) (sraise c fs) := by
  intro r w σ H ρ D s po
  refine sS_of (ps_raise hc tk (pmk_oex O iC tI F1 hr hb .nil pass0 hg hm pa_s hdb he hpl)) ?_
  have hln := ha.len ρ
  refine ha.run r w σ H ρ _ s ?_
  unfold sraise after at po
  revert po
  cases ef : fs ρ with
  | stuck => exact fun po => po
  | er c' ds' ρ' => exact fun po r' cls dd H' w' s' => po r' cls dd σ H' w' s'
  | ok z =>
    obtain ⟨ds, ρ1⟩ := z
    intro po vs H1 w1 s1 q1 e1
    have hl := hln ds ρ1 ef
    match ds, hl with
    | [d], _ =>
    have q1' := q1
    simp only [RepL] at q1'
    obtain ⟨v, _, rfl, rv, rfl⟩ := q1'
    refine ⟨by show 1 ≤ 1000; decide, fun a ha => ⟨a, C, v, rfl, upd_same, O, hno, fun dx h1 h2 => ⟨rfl, dx, [(f, v)], upd_same, ?_, ?_, ?_⟩⟩⟩
    · rw [upd_ne h2, upd_same]
    · rw [upd_ne h2] at h1; exact h1
    · have h1' : H1 dx = none := by rw [upd_ne h2] at h1; exact h1
      obtain ⟨z1, z2, z3⟩ := exc_laid (c := c) (d := dx) (fs := [(f, v)]) (H' := upd H1 dx (.xd [(f, v)])) s1 q1 h1' rfl (by rw [hfl]; rfl) (fun i f' ei => by
        rw [hfl] at ei
        match i, ei with
        | 0, ei => cases ei; simp [List.lookup])
      have eH : upd (del (upd (upd (upd H1 a (exo a C none)) dx (exd dx [(f, v)])) a (exo a C (some dx))) a) dx (.xd [(f, v)]) = upd H1 dx (.xd [(f, v)]) := by
        funext b
        by_cases hb : b = dx
        · subst hb; rw [upd_same, upd_same]
        · rw [upd_ne hb, upd_ne hb]
          by_cases hb' : b = a
          · subst hb'; rw [del_same, ha]
          · rw [del_ne hb', upd_ne hb', upd_ne hb, upd_ne hb']
      rw [eH]
      exact hC ▸ po _ _ _ σ _ w1 z1 z2 (e1.trans z3)
theorem sv_raise2 {x f g : Str} {c : Nat} {C fI : Addr} {fd : FuncData} {ps : List Str} {k : Nat} {e e2 : Expr} {fs : M (List D)} {p p2 pos : Pos} (hKT : X.K = T.K) (hc : X.calm = true) (tk : Takes X W) (hC : T.C c = C) (hfl : T.fl c = [f, g]) (hfg : g ≠ f)
    (O : OexC X.K C) (iC : PySem.W.findIn X.K (.ref C) "__init__" = some (some (.ref fI))) (tI : PySem.W.typeIn X.K (.ref fI) = some (.type "function")) (hno : PySem.W.findIn X.K (.ref C) f = some none) (hno2 : PySem.W.findIn X.K (.ref C) g = some none)
    (F1 : FnOk X.prog X.w X.K X.mg X.base CX0 k fI fd ps (spI2 X.K f g)) (hr : Room (k + 1) X.A) (hb : Binds X.K fd ps []) (hg : Gl X x) (hm : X.mg x = some (.ref C)) (ha : AV T X W [e, e2] fs)
    (hdb : (x == ("__debug__" : Str)) = false := by decide) (he : starEach [e, e2] X.env = (false, eval e X.env) :: starEach [e2] X.env := by rfl) (hpl : (backTo p2 (starEach [e2] X.env)).any (·.1) = false := by rfl) :
    SV T X W (.Raise (some (.Call (.Name x p) [e, e2] [] p2)) none pos) (sraise c fs) := by
  intro r w σ H ρ D s po
  refine sS_of (ps_raise hc tk (pmk_oex O iC tI F1 hr hb .nil pass0 hg hm pa_s hdb he hpl)) ?_
  have hln := ha.len ρ
  refine ha.run r w σ H ρ _ s ?_
  unfold sraise after at po
  revert po
  cases ef : fs ρ with
  | stuck => exact fun po => po
  | er c' ds' ρ' => exact fun po r' cls dd H' w' s' => po r' cls dd σ H' w' s'
  | ok z =>
    obtain ⟨ds, ρ1⟩ := z
    intro po vs H1 w1 s1 q1 e1
    have hl := hln ds ρ1 ef
    match ds, hl with
    | [d, d2], _ =>
    have q1' := q1
    simp only [RepL] at q1'
    obtain ⟨v, _, rfl, rv, u, _, rfl, ru, rfl⟩ := q1'
    refine ⟨by show 2 ≤ 1000; decide, fun a ha => ⟨a, C, v, u, rfl, upd_same, O, hno, hno2, fun dx h1 h2 => ⟨rfl, dx, [(g, u), (f, v)], ?_, upd_same, ?_, ?_⟩⟩⟩
    · rw [upd_ne (Ne.symm h2), upd_same]
    · rw [upd_ne h2] at h1; exact h1
    · have h1' : H1 dx = none := by rw [upd_ne h2] at h1; exact h1
      obtain ⟨z1, z2, z3⟩ := exc_laid (c := c) (d := dx) (fs := [(g, u), (f, v)]) (H' := upd H1 dx (.xd [(g, u), (f, v)])) s1 q1 h1' rfl (by rw [hfl]; rfl) (fun i f' ei => by
        rw [hfl] at ei
        match i, ei with
        | 0, ei =>
          cases ei
          have : (f == g) = false := by simpa using (Ne.symm hfg)
          simp [List.lookup, this]
        | 1, ei => cases ei; simp [List.lookup])
      have eH : upd (del (upd (upd (upd (upd H1 a (exo a C none)) dx (exd dx [(f, v)])) a (exo a C (some dx))) dx (exd dx [(g, u), (f, v)])) a) dx (.xd [(g, u), (f, v)]) = upd H1 dx (.xd [(g, u), (f, v)]) := by
        funext b
        by_cases hb : b = dx
        · subst hb; rw [upd_same, upd_same]
        · rw [upd_ne hb, upd_ne hb]
          by_cases hb' : b = a
          · subst hb'; rw [del_same, ha]
          · rw [del_ne hb', upd_ne hb, upd_ne hb', upd_ne hb, upd_ne hb']
      rw [eH]
      exact hC ▸ po _ _ _ σ _ w1 z1 z2 (e1.trans z3)
end
end Y
set_option Elab.async false
set_option maxRecDepth 100000
set_option linter.all false
/-! The value layer: try .. except, several clauses, each with a name or without. -/
namespace Y
open PySem L2
open PySem.Spec PyProof.Rows
structure Hd where
  c : Value
  i : Option Nat
  ts : Addr → Value → Option Addr → TS
def wMix (K : PySem.W.Frag) (Wout : WX) (D : Ends) : List Hd → WX
  | [] => Wout
  | h :: r => fun cls d σ H => ∃ b, PySem.W.exmOne K cls h.c = some b ∧ (b = true → ∀ a, H a = none → (match h.i with
      | none => h.ts a cls d D σ H
      | some i => h.ts a cls d { nx := fun σ' H' => D.nx (σ'.set i none) H', rt := D.rt, bk := fun σ' H' => D.bk (σ'.set i none) H', ct := fun σ' H' => D.ct (σ'.set i none) H' } (σ.set i (some (.ref a))) H)) ∧
    (b = false → wMix K Wout D r cls d σ H)
inductive HdsMix (X : Cx) : List ExceptHandler → List Hd → Prop
  | nil : HdsMix X [] []
  | cons {x : Str} {c : Value} {ts : Addr → Value → Option Addr → TS} {b₀ : Stmt} {suite : List Stmt} {np pos' : Pos} {hds : List ExceptHandler} {l : List Hd} (hc : Names X x c)
      (hsu : ∀ (a : Addr) (oe : Obj) (cls : Value) (d : Option Addr) (pn : List (Addr × Obj)), Zc cls d oe → (∃ vs, oe.data = .fields vs) → PSs (X.suite a ((a, oe) :: pn)) (b₀ :: suite) (ts a cls d)) (r : HdsMix X hds l) :
      HdsMix X (.ExceptHandler (some (.Name x np)) none (b₀ :: suite) pos' :: hds) (⟨c, none, ts⟩ :: l)
  | consAs {x n : Str} {i : Nat} {c : Value} {ts : Addr → Value → Option Addr → TS} {b₀ : Stmt} {suite : List Stmt} {np pos' : Pos} {hds : List ExceptHandler} {l : List Hd} (hc : Names X x c) (hi : X.N[i]? = some n) (hln : X.env.kindOf n = some .local)
      (hsu : ∀ (a : Addr) (oe : Obj) (cls : Value) (d : Option Addr) (pn : List (Addr × Obj)), Zc cls d oe → (∃ vs, oe.data = .fields vs) → PSs (X.suite a ((a, oe) :: pn)) (b₀ :: suite) (ts a cls d)) (r : HdsMix X hds l) :
      HdsMix X (.ExceptHandler (some (.Name x np)) (some n) (b₀ :: suite) pos' :: hds) (⟨c, some i, ts⟩ :: l)
section
variable {X : Cx} {body : List Stmt} {h₀ : ExceptHandler} {hds : List ExceptHandler} {l : List Hd} {pos : Pos} {tb : WX → TS} {Wout : WX}
theorem ps_try_mix (hs : X.stack = X.env :: X.outer) (hf : X.env.frame = some X.env.locals) (hN : X.N.Nodup) (tk : Takes X Wout)
    (hb : ∀ (W : WX) (pn : List (Addr × Obj)) (xe : Value → Shared → Prop), Takes (X.tr pn xe) W → PassesOwn (model X.prog X.w) X.A X.env xe → PSs (X.tr pn xe) body (tb W))
    (hh : HdsMix X (h₀ :: hds) l) : PS X (.Try body (h₀ :: hds) [] [] pos) (fun D σ H => tb (wMix X.K Wout D l) D σ H) := by
  refine ⟨fun pins s σ H D I h => ?_⟩
  have ok := I.ok
  have hfr : X.A.frames = some (X.env :: X.outer) := by rw [ok.frames, hs]
  refine wpAny_Try_except ?_
  refine wpAny_mono ((hb (wMix X.K Wout D l) (X.pn ++ pins) (fun e s₁ => wpAny (model X.prog X.w) X.A (noteFrame e X.env) (fun _ s₂ => wpAny (model X.prog X.w) X.A (setFlight e none) (fun _ s₃ =>
    wpAny (model X.prog X.w) X.A (handleBy e X.env (h₀ :: hds)) (SP X pins D) X.xe s₃) X.xe s₂) X.xe s₁) (fun u s' xx => ?_) PassesOwn.looking).run [] s σ H D (I.toTry _) h) (fun f s1 hsp => ?_) (fun e s1 he => he)
  · -- the catch
    obtain ⟨a, B, sI, pins', σ', H', cls, d, rfl, J', nb, up, sky, na, os, ag, w⟩ := xx
    have J : Inv X pins σ' H' sI := J'.ofTry ok
    have sky' : Sky B (X.env :: X.outer) a (Zc cls d) X.env.locals s'.heap := by rw [← hs]; exact sky
    show wpAny (model X.prog X.w) X.A (noteFrame (.ref a) X.env) _ _ _
    refine Sky.land Zc.steady hfr hf sky' fun h3 fl3 up3 => ?_
    have J3 : Inv X pins σ' H' { s' with heap := h3 } := J.landed nb fl3.1 (up.trans up3) os ag
    obtain ⟨oe3, vs3, he3, hz3, hd3⟩ := fl3.there
    have notFr : ∀ {h : Heap} {o : Obj} {vs : Array Value}, h.FunFrames B (X.env :: X.outer) → h.get? a = some o → o.data = .fields vs → a ∉ frs (X.env :: X.outer) := fun {h o vs} ff e dd hm => by
      obtain ⟨_, o', e', hnf⟩ := ff.mem hm
      rw [e] at e'; cases e'
      exact hnf _ dd
    have nfr := notFr fl3.2.2.1 he3 hd3
    have nL : a ≠ X.env.locals := fun z => nfr (List.mem_filterMap.mpr ⟨X.env, List.mem_cons_self, by rw [hf, z]⟩)
    have nF : a ∉ X.fs := fun hm => by
      obtain ⟨e, he, q⟩ := List.mem_filterMap.mp hm
      exact nfr (List.mem_filterMap.mpr ⟨e, List.mem_cons_of_mem _ he, q⟩)
    have S3 := J3.suite he3 hd3 na nL nF
    have LT : PySem.W.Looks (model X.prog X.w) h3 (typeOf (.ref a)) cls := fun A Q E s k q => wpAny_typeOf_ref (k _ _ he3) (by rw [hz3.1]; exact q)
    have test : ∀ {x : Str} {c : Value} {np : Pos} {Q : Value → Shared → Prop} {E : Value → Shared → Prop}, Names X x c → Q c { s' with heap := h3 } → wpAny (model X.prog X.w) (X.A.mark (some (.ref a))) (eval (.Name x np) X.env) Q E { s' with heap := h3 } := fun {x c np Q E} hc q => by
      obtain ⟨hg, hdbg, hm | ⟨hm, hv, hnn⟩⟩ := hc
      · exact ld_glob (X := X.suite a ((a, oe3) :: (X.pn ++ pins))) S3 hg hm q hdbg
      · exact ld_blt (X := X.suite a ((a, oe3) :: (X.pn ++ pins))) S3 hg hm hv q hnn hdbg
    have go : ∀ {hds' : List ExceptHandler} {l' : List Hd}, HdsMix X hds' l' → wMix X.K Wout D l' cls d σ' H' →
        wpAny (model X.prog X.w) X.A (handleBy (.ref a) X.env hds') (SP X pins D) X.xe { s' with heap := h3 } := by
      intro hds' l' hk
      induction hk with
      | nil =>
        intro w
        refine wpAny_handleBy_nil ?_
        obtain ⟨k1, k2, k3, oe, vs, T, oT, ts', he, hz, hd, h1, hr⟩ := id fl3
        unfold PySem.passOn
        refine wpAny_bind (wpAny_field he hd h1 ?_)
        rw [if_neg (show ¬ ((Value.ref T == Value.none) = true) from by simp)]
        have fin : wpAny (model X.prog X.w) X.A (setFlight (.ref a) X.env.frame) (fun _ s4 => wpAny (model X.prog X.w) X.A (throw (.ref a) : Sem Flow) (SP X pins D) X.xe s4) X.xe { s' with heap := h3 } := by
          rw [hf]
          refine HandSPX.setFlight_upZ fl3 fun h4 hh4 up4 => wpAny_throw (tk _ _ ?_)
          exact ⟨a, B, sI, pins, σ', H', cls, d, rfl, J, nb, (up.trans up3).trans up4, .inr (.inr (by rw [hs]; exact hh4)), na, os, ag, w⟩
        first
          | exact wpAny_bind (wpAny_pure (wpAny_bind fin))
          | exact wpAny_bind fin
      | @cons x c ts b₀ suite np pos' hds2 l2 hc hsu r ih =>
        intro w
        obtain ⟨b, hb1, hyes, hno⟩ := w
        refine wpAny_handleBy_cons (codeAny_handlers_test ?_) (by intro q; cases q)
        have LM := PySem.W.exm_one (M := model X.prog X.w) (J3.kIn) LT hb1
        refine test hc (LM.here ?_)
        cases b with
        | true =>
          refine codeAny_handlers_suite ?_
          refine HandSPX.lands_againZ fl3 fun h4 fl4 up4 => ?_
          have J4 : Inv X pins σ' H' { s' with heap := h4 } := J.landed nb fl4.1 ((up.trans up3).trans up4) os ag
          obtain ⟨oe4, vs4, he4, hz4, hd4⟩ := fl4.there
          have S4 := J4.suite he4 hd4 na nL nF
          refine wpAny_mono ((hsu a oe4 cls d (X.pn ++ pins) hz4 ⟨_, hd4⟩).run [] _ _ H' _ S4 (hyes rfl a na)) (fun f s6 hsp => ?_) (fun _ _ z => False.elim z)
          cases f with
          | next => obtain ⟨σ6, H6, S6, q6⟩ := hsp; exact ⟨_, _, S6.unsuite ok, q6⟩
          | brk => obtain ⟨σ6, H6, S6, q6⟩ := hsp; exact ⟨_, _, S6.unsuite ok, q6⟩
          | cont => obtain ⟨σ6, H6, S6, q6⟩ := hsp; exact ⟨_, _, S6.unsuite ok, q6⟩
          | ret u => obtain ⟨v6, σ6, H6, S6, r6, q6⟩ := hsp; exact ⟨_, _, _, S6.unsuite ok, r6, q6⟩
        | false =>
          show wpAny _ X.A (handleBy (.ref a) X.env hds2) _ _ _
          exact ih (hno rfl)
      | @consAs x n i c ts b₀ suite np pos' hds2 l2 hc hi hln hsu r ih =>
        intro w
        obtain ⟨b, hb1, hyes, hno⟩ := w
        refine wpAny_handleBy_cons (codeAny_handlers_test ?_) (by intro q; cases q)
        have LM := PySem.W.exm_one (M := model X.prog X.w) (J3.kIn) LT hb1
        refine test hc (LM.here ?_)
        cases b with
        | true =>
          refine codeAny_handlers_suite_as ?_
          refine HandSPX.lands_againZ fl3 fun h4 fl4 up4 => ?_
          have J4 : Inv X pins σ' H' { s' with heap := h4 } := J.landed nb fl4.1 ((up.trans up3).trans up4) os ag
          obtain ⟨oe4, vs4, he4, hz4, hd4⟩ := fl4.there
          have S4 := J4.suite he4 hd4 na nL nF
          refine store_ok (X := X.suite a ((a, oe4) :: (X.pn ++ pins))) (v := .ref a) S4 hN hi (.inl hln) rfl (fun s5 S5 => ?_) (.inr hln)
          refine wpAny_mono ((hsu a oe4 cls d (X.pn ++ pins) hz4 ⟨_, hd4⟩).run [] s5 _ H' _ S5 (hyes rfl a na)) (fun f s6 hsp => ?_) (fun _ _ z => False.elim z)
          have end_ : ∀ {σ6 : L2.St} {H6 : Hp} {Q : Shared → Prop}, Inv (X.suite a ((a, oe4) :: (X.pn ++ pins))) [] σ6 H6 s6 → (∀ s7, Inv X pins (σ6.set i none) H6 s7 → Q s7) →
              wpAny (model X.prog X.w) X.A (do bindName X.env n .none; unbindBehindTheSuite X.env n pos') (fun _ s7 => Q s7) X.xe s6 := fun {σ6 H6 Q} S6 hq => gone_ok (S6.unsuite ok) hN hi hln hq
          cases f with
          | next => obtain ⟨σ6, H6, S6, q6⟩ := hsp; exact end_ S6 fun s7 J7 => ⟨_, _, J7, q6⟩
          | brk => obtain ⟨σ6, H6, S6, q6⟩ := hsp; exact end_ S6 fun s7 J7 => ⟨_, _, J7, q6⟩
          | cont => obtain ⟨σ6, H6, S6, q6⟩ := hsp; exact end_ S6 fun s7 J7 => ⟨_, _, J7, q6⟩
          | ret u => obtain ⟨v6, σ6, H6, S6, r6, q6⟩ := hsp; exact end_ S6 fun s7 J7 => ⟨_, _, _, J7, r6, q6⟩
        | false =>
          show wpAny _ X.A (handleBy (.ref a) X.env hds2) _ _ _
          exact ih (hno rfl)
    exact go hh w
  · cases f with
    | next => obtain ⟨σ', H', J', q⟩ := hsp; exact wpAny_execs_nil ⟨σ', H', J'.ofTry ok, q⟩
    | brk => obtain ⟨σ', H', J', q⟩ := hsp; exact ⟨σ', H', J'.ofTry ok, q⟩
    | cont => obtain ⟨σ', H', J', q⟩ := hsp; exact ⟨σ', H', J'.ofTry ok, q⟩
    | ret u => obtain ⟨v, σ', H', J', r, q⟩ := hsp; exact ⟨v, σ', H', J'.ofTry ok, r, q⟩
end
end Y
set_option Elab.async false
set_option maxRecDepth 100000
set_option linter.all false
/-! The value layer: try .. except by values. -/
namespace Y
open PySem L2
open PySem.Spec PyProof.Rows
/-! ### what an exception leaves behind: temporaries are given up -/
def frzA (r : Nat) (w : Own) : Own := fun a => match w a with
  | some (.tmp k, π) => if r ≤ k then none else some (.tmp k, π)
  | t => t
section
variable {T : Tb} {r : Nat} {w : Own} {a : Addr}
theorem frzA_none (h : w a = none) : frzA r w a = none := by unfold frzA; rw [h]
theorem frzA_slot {i : Nat} {π : List Nat} (h : w a = some (.slot i, π)) : frzA r w a = some (.slot i, π) := by unfold frzA; rw [h]
theorem frzA_lo {k : Nat} {π : List Nat} (h : w a = some (.tmp k, π)) (hk : k < r) : frzA r w a = some (.tmp k, π) := by unfold frzA; rw [h]; exact if_neg (by omega)
theorem frzA_some {t : Tag} (h : frzA r w a = some t) : w a = some t ∧ ∀ k π, t = (.tmp k, π) → k < r := by
  unfold frzA at h
  split at h
  · rename_i k π e
    split at h
    · cases h
    · cases h; exact ⟨e, fun k π z => by cases z; omega⟩
  · rename_i t' e
    refine ⟨h, fun k π z => ?_⟩
    subst z
    exact absurd h (e k π)
theorem SR.frzA {r' : Nat} {σ : L2.St} {H : Hp} {ρ : Env} (s : SR T r' w σ H ρ) (r : Nat) : SR T r (frzA r w) σ H ρ where
  ln := s.ln
  sl := fun i o e => by
    obtain ⟨v, e1, ow⟩ := s.sl i o e
    exact ⟨v, e1, Owns.frame (fun a u hw hu => ⟨hu, frzA_none hw⟩) o v _ _ (fun a u π hw hu => ⟨hu, frzA_slot hw⟩) ow⟩
  tm := fun a k π e => (frzA_some e).2 k π rfl
  dm := fun a t e => s.dm a t (frzA_some e).1
  fx := s.fx
  pp := T.pc _ _ _ _ (fun a u hw hu => ⟨hu, frzA_none hw⟩) s.pp
theorem Evo.frzA {w w' : Own} {H H' : Hp} (tm : ∀ a k π, w a = some (.tmp k, π) → k < r) (e : Evo w H w' H') : Evo w H (frzA r w') H' := fun a u hc hu => by
  obtain ⟨e1, e2⟩ := e a u hc hu
  refine ⟨e1, ?_⟩
  rcases hc with hc | ⟨k, π, hc⟩
  · rw [hc] at e2 ⊢; exact frzA_none e2
  · rw [hc] at e2 ⊢; exact frzA_lo e2 (tm a k π hc)
theorem Exc.frame {H H' : Hp} {w' : Own} {c : Nat} {ds : List D} {cls : Value} {dd : Option Addr} (h : Exc T H w c ds cls dd) (hf : ∀ a u, w a = none → H a = some u → H' a = some u ∧ w' a = none) : Exc T H' w' c ds cls dd := by
  obtain ⟨e, d, fs, vs, e1, e2, e3, e4, e5, e6⟩ := h
  obtain ⟨z1, z2⟩ := hf d _ e3 e2
  exact ⟨e, d, fs, vs, e1, z1, z2, RepL.frame hf _ _ e4, e5, e6⟩
end
/-! ### the suite's surroundings: slot i holds the exception -/
def Amb.exc (T : Tb) (i : Option Nat) (a : Addr) (c : Nat) (ds : List D) (cls : Value) (dd : Option Addr) : Amb where
  B := fun j => if i = some j then some (.ref a) else T.B j
  P := fun w H => T.P w H ∧ Exc T H w c ds cls dd
  pc := fun w H w' H' k h => ⟨T.pc w H w' H' k h.1, h.2.frame k⟩
abbrev Tb.exc (T : Tb) (i : Option Nat) (a : Addr) (c : Nat) (ds : List D) (cls : Value) (dd : Option Addr) : Tb := T.at (.exc T i a c ds cls dd)
/-- a clause's mirror: which classes it takes, its name's slot, its suite -/
structure HM where
  mt : Nat → Option Bool
  i : Option Nat
  m : Nat → List D → MS
def cls? (i : Option Nat) (ρ : Env) : Env := match i with
  | none => ρ
  | some i => ρ.set i none
def okI (i : Option Nat) (ρ : Env) : Bool := match i with
  | none => true
  | some i => decide (i < ρ.length)
def clr (i : Option Nat) : Fl → Fl
  | .nx ρ => .nx (cls? i ρ)
  | .bk ρ => .bk (cls? i ρ)
  | .ct ρ => .ct (cls? i ρ)
  | .rt o ρ => .rt o (cls? i ρ)
  | x => x
def hand : List HM → Nat → List D → Env → Fl
  | [], c, ds, ρ => .er c ds ρ
  | h :: r, c, ds, ρ => match h.mt c with
    | some true => (match okI h.i ρ with
      | true => (match h.m c ds (cls? h.i ρ) with
        | .er _ _ _ => .stuck
        | x => clr h.i x)
      | false => .stuck)
    | some false => hand r c ds ρ
    | none => .stuck
def stry (m : MS) (l : List HM) : MS := fun ρ => match m ρ with
  | .er c ds ρ' => hand l c ds ρ'
  | x => x
/-- the clauses, with their suites' walks -/
inductive HV (T : Tb) (X : Cx) : List ExceptHandler → List HM → Prop
  | nil : HV T X [] []
  | cons {x : Str} {cv : Value} {mt : Nat → Option Bool} {m : Nat → List D → MS} {b₀ : Stmt} {suite : List Stmt} {np pos' : Pos} {hds : List ExceptHandler} {l : List HM} (hc : Names X x cv)
      (hmt : ∀ c b, mt c = some b → PySem.W.exmOne X.K (.ref (T.C c)) cv = some b)
      (hsu : ∀ (a : Addr) (oe : Obj) (cls : Value) (d : Option Addr) (pn : List (Addr × Obj)) (c : Nat) (ds : List D), Zc cls d oe → (∃ vs, oe.data = .fields vs) → cls = .ref (T.C c) → mt c = some true → BV (T.exc none a c ds cls d) (X.suite a ((a, oe) :: pn)) W0 (b₀ :: suite) (m c ds)) (r : HV T X hds l) :
      HV T X (.ExceptHandler (some (.Name x np)) none (b₀ :: suite) pos' :: hds) (⟨mt, none, m⟩ :: l)
  | consAs {x n : Str} {i : Nat} {cv : Value} {mt : Nat → Option Bool} {m : Nat → List D → MS} {b₀ : Stmt} {suite : List Stmt} {np pos' : Pos} {hds : List ExceptHandler} {l : List HM} (hc : Names X x cv) (hi : X.N[i]? = some n) (hln : X.env.kindOf n = some .local) (hB : T.B i = none)
      (hmt : ∀ c b, mt c = some b → PySem.W.exmOne X.K (.ref (T.C c)) cv = some b)
      (hsu : ∀ (a : Addr) (oe : Obj) (cls : Value) (d : Option Addr) (pn : List (Addr × Obj)) (c : Nat) (ds : List D), Zc cls d oe → (∃ vs, oe.data = .fields vs) → cls = .ref (T.C c) → mt c = some true → BV (T.exc (some i) a c ds cls d) (X.suite a ((a, oe) :: pn)) W0 (b₀ :: suite) (m c ds)) (r : HV T X hds l) :
      HV T X (.ExceptHandler (some (.Name x np)) (some n) (b₀ :: suite) pos' :: hds) (⟨mt, some i, m⟩ :: l)
section
variable {T : Tb} {X : Cx} {W : WX}
theorem SR.suiteIn {r : Nat} {w : Own} {σ : L2.St} {H : Hp} {ρ : Env} {c : Nat} {ds : List D} {cls : Value} {dd : Option Addr} {a : Addr} (s : SR T r w σ H ρ) (x : Exc T H w c ds cls dd) : SR (T.exc none a c ds cls dd) r w σ H ρ where
  ln := s.ln
  sl := fun j o e => by
    obtain ⟨v, e1, ow⟩ := s.sl j o e
    exact ⟨v, e1, Owns.toB _ _ _ ow⟩
  tm := s.tm
  dm := s.dm
  fx := fun j v e => s.fx j v (by
    have e' : (if (none : Option Nat) = some j then some (V.ref a) else T.B j) = some v := e
    rw [if_neg (by simp)] at e'; exact e')
  pp := ⟨s.pp, x⟩
theorem SR.suiteInAs {r : Nat} {w : Own} {σ : L2.St} {H : Hp} {ρ : Env} {c : Nat} {ds : List D} {cls : Value} {dd : Option Addr} {a : Addr} {i : Nat} (s : SR T r w σ H ρ) (x : Exc T H w c ds cls dd) (hi : i < σ.length) : SR (T.exc (some i) a c ds cls dd) r w (σ.set i (some (.ref a))) H (ρ.set i none) where
  ln := by rw [List.length_set, List.length_set]; exact s.ln
  sl := fun j o e => by
    rw [List.getElem?_set] at e
    by_cases h : i = j
    · subst h; rw [if_pos rfl] at e; split at e <;> cases e
    · rw [if_neg h] at e
      obtain ⟨v, e1, ow⟩ := s.sl j o e
      exact ⟨v, by rw [List.getElem?_set_ne h]; exact e1, Owns.toB _ _ _ ow⟩
  tm := s.tm
  dm := s.dm
  fx := fun j v e => by
    have e' : (if some i = some j then some (V.ref a) else T.B j) = some v := e
    by_cases h : i = j
    · subst h
      rw [if_pos rfl] at e'; cases e'
      rw [List.getElem?_set_self hi]
    · rw [if_neg (fun z => h (Option.some.inj z))] at e'
      rw [List.getElem?_set_ne h]; exact s.fx j v e'
  pp := ⟨s.pp, x⟩
theorem SR.suiteOut {r : Nat} {w : Own} {σ : L2.St} {H : Hp} {ρ : Env} {c : Nat} {ds : List D} {cls : Value} {dd : Option Addr} {a : Addr} (s : SR (T.exc none a c ds cls dd) r w σ H ρ) : SR T r w σ H ρ where
  ln := s.ln
  sl := fun j o e => by
    obtain ⟨v, e1, ow⟩ := s.sl j o e
    exact ⟨v, e1, ow.ofB⟩
  tm := s.tm
  dm := s.dm
  fx := fun j v e => s.fx j v (by
    show (if (none : Option Nat) = some j then some (V.ref a) else T.B j) = some v
    rw [if_neg (by simp)]; exact e)
  pp := s.pp.1
theorem SR.suiteOutAs {r : Nat} {w : Own} {σ : L2.St} {H : Hp} {ρ : Env} {c : Nat} {ds : List D} {cls : Value} {dd : Option Addr} {a : Addr} {i : Nat} (s : SR (T.exc (some i) a c ds cls dd) r w σ H ρ) (hB : T.B i = none) : SR T r w (σ.set i none) H (ρ.set i none) where
  ln := by rw [List.length_set, List.length_set]; exact s.ln
  sl := fun j o e => by
    rw [List.getElem?_set] at e
    by_cases h : i = j
    · subst h; rw [if_pos rfl] at e; split at e <;> cases e
    · rw [if_neg h] at e
      obtain ⟨v, e1, ow⟩ := s.sl j o e
      exact ⟨v, by rw [List.getElem?_set_ne h]; exact e1, ow.ofB⟩
  tm := s.tm
  dm := s.dm
  fx := fun j v e => by
    have h : i ≠ j := fun z => by subst z; rw [hB] at e; cases e
    rw [List.getElem?_set_ne h]
    exact s.fx j v (by
      show (if some i = some j then some (V.ref a) else T.B j) = some v
      rw [if_neg (fun z => h (Option.some.inj z))]; exact e)
  pp := s.pp.1
/-- the reading of a suite, for every way into it -/
def sSu (X : Cx) (suite : List Stmt) : Addr → Value → Option Addr → TS := fun a cls d D σ H => ∀ (oe : Obj) (pn : List (Addr × Obj)), Zc cls d oe → (∃ vs, oe.data = .fields vs) → sB (X.suite a ((a, oe) :: pn)) suite D σ H
theorem HV.mix {hds : List ExceptHandler} {l : List HM} (h : HV T X hds l) : ∃ ls, HdsMix X hds ls ∧ ∀ (r : Nat) (w0 w : Own) (H0 H : Hp) (σ : L2.St) (ρ : Env) (D : Ends) (c : Nat) (ds : List Y.D) (cls : Value) (dd : Option Addr),
    SR T r w σ H ρ → Exc T H w c ds cls dd → Evo w0 H0 w H → PostS T W r w0 H0 D (hand l c ds ρ) → wMix X.K W D ls cls dd σ H := by
  induction h with
  | nil => exact ⟨[], .nil, fun r w0 w H0 H σ ρ D c ds cls dd s x e p => p r cls dd σ H w s x e⟩
  | @cons x cv mt m b₀ suite np pos' hds l hc hmt hsu r ih =>
    obtain ⟨ls, h1, h2⟩ := ih
    refine ⟨_, .cons hc (ts := sSu X _) (fun a oe cls d pn hz hf => ⟨fun pins s σ H D I h => pb_s.run pins s σ H D I (h oe pn hz hf)⟩) h1, fun r w0 w H0 H σ ρ D c ds cls dd s x e p => ?_⟩
    unfold hand at p
    dsimp only at p
    cases em : mt c with
    | none => rw [em] at p; exact p.elim
    | some b =>
      rw [em] at p
      have ec : cls = .ref (T.C c) := x.1
      refine ⟨b, by rw [ec]; exact hmt c b em, fun eb a na => ?_, fun eb => ?_⟩
      · subst eb
        intro oe pn hz hf
        refine hsu a oe cls dd pn c ds hz hf ec em r w σ H ρ D (s.suiteIn x) ?_
        dsimp only [okI, cls?] at p
        revert p
        cases m c ds ρ with
        | nx ρ1 => exact fun p σ1 H1 w1 s1 e1 => p σ1 H1 w1 s1.suiteOut (e.trans e1)
        | bk ρ1 => exact fun p σ1 H1 w1 s1 e1 => p σ1 H1 w1 s1.suiteOut (e.trans e1)
        | ct ρ1 => exact fun p σ1 H1 w1 s1 e1 => p σ1 H1 w1 s1.suiteOut (e.trans e1)
        | rt o ρ1 => exact fun p v σ1 H1 w1 s1 q1 e1 => p v σ1 H1 w1 s1.suiteOut q1.ofB (e.trans e1)
        | er _ _ _ => exact fun p => p.elim
        | stuck => exact fun p => p.elim
      · subst eb
        exact h2 r w0 w H0 H σ ρ D c ds cls dd s x e p
  | @consAs x n i cv mt m b₀ suite np pos' hds l hc hi hln hB hmt hsu r ih =>
    obtain ⟨ls, h1, h2⟩ := ih
    refine ⟨_, .consAs hc hi hln (ts := sSu X _) (fun a oe cls d pn hz hf => ⟨fun pins s σ H D I h => pb_s.run pins s σ H D I (h oe pn hz hf)⟩) h1, fun r w0 w H0 H σ ρ D c ds cls dd s x e p => ?_⟩
    unfold hand at p
    dsimp only at p
    cases em : mt c with
    | none => rw [em] at p; exact p.elim
    | some b =>
      rw [em] at p
      have ec : cls = .ref (T.C c) := x.1
      refine ⟨b, by rw [ec]; exact hmt c b em, fun eb a na => ?_, fun eb => ?_⟩
      · subst eb
        intro oe pn hz hf
        dsimp only [okI, cls?] at p
        cases hlt : decide (i < ρ.length) with
        | true =>
          rw [hlt] at p
          rw [decide_eq_true_eq] at hlt
          refine hsu a oe cls dd pn c ds hz hf ec em r w (σ.set i (some (.ref a))) H (ρ.set i none) _ (s.suiteInAs x (by rw [s.ln]; exact hlt)) ?_
          revert p
          cases m c ds (ρ.set i none) with
          | nx ρ1 => exact fun p σ1 H1 w1 s1 e1 => p _ H1 w1 (s1.suiteOutAs hB) (e.trans e1)
          | bk ρ1 => exact fun p σ1 H1 w1 s1 e1 => p _ H1 w1 (s1.suiteOutAs hB) (e.trans e1)
          | ct ρ1 => exact fun p σ1 H1 w1 s1 e1 => p _ H1 w1 (s1.suiteOutAs hB) (e.trans e1)
          | rt o ρ1 => exact fun p v σ1 H1 w1 s1 q1 e1 => p v _ H1 w1 (s1.suiteOutAs hB) q1.ofB (e.trans e1)
          | er _ _ _ => exact fun p => p.elim
          | stuck => exact fun p => p.elim
        | false => rw [hlt] at p; exact p.elim
      · subst eb
        exact h2 r w0 w H0 H σ ρ D c ds cls dd s x e p
theorem sv_try {body : List Stmt} {h₀ : ExceptHandler} {hds : List ExceptHandler} {l : List HM} {m : MS} {pos : Pos} (hs : X.stack = X.env :: X.outer) (hf : X.env.frame = some X.env.locals) (hN : X.N.Nodup) (tk : Takes X W)
    (hb : ∀ (W' : WX) (pn : List (Addr × Obj)) (xe : Value → Shared → Prop), Takes (X.tr pn xe) W' → PassesOwn (model X.prog X.w) X.A X.env xe → BV T (X.tr pn xe) W' body m) (hh : HV T X (h₀ :: hds) l) :
    SV T X W (.Try body (h₀ :: hds) [] [] pos) (stry m l) := by
  intro r w σ H ρ D s p
  obtain ⟨ls, h1, h2⟩ := hh.mix (W := W)
  refine sS_of (ps_try_mix hs hf hN tk (tb := fun W' D σ H => ∀ (pn : List (Addr × Obj)) (xe : Value → Shared → Prop), Takes (X.tr pn xe) W' → PassesOwn (model X.prog X.w) X.A X.env xe → sB (X.tr pn xe) body D σ H)
    (fun W' pn xe t1 t2 => ⟨fun pins s σ H D I h => pb_s.run pins s σ H D I (h pn xe t1 t2)⟩) h1) ?_
  intro pn xe t1 t2
  refine hb _ pn xe t1 t2 r w σ H ρ D s ?_
  unfold stry at p
  revert p
  cases m ρ with
  | nx ρ1 => exact fun p => p
  | bk ρ1 => exact fun p => p
  | ct ρ1 => exact fun p => p
  | rt o ρ1 => exact fun p => p
  | er c ds ρ1 =>
    intro p r' cls dd σ' H' w' s' x e
    exact h2 r w (frzA r w') H H' σ' ρ1 D c ds cls dd (s'.frzA r) (x.frame fun a u hw hu => ⟨hu, frzA_none hw⟩) (e.frzA s.tm) p
  | stuck => exact fun p => p
end
end Y
set_option Elab.async false
set_option maxRecDepth 100000
set_option linter.all false
/-! The value layer: the caught exception's fields. -/
namespace Y
open PySem L2
open PySem.Spec PyProof.Rows
section
variable {T : Tb} {X : Cx}
theorem ev_exf {i j c : Nat} {a : Addr} {oe : Obj} {cls : Value} {d : Option Addr} {pn : List (Addr × Obj)} {ds : List D} {x f : Str} {p pos : Pos} (hz : Zc cls d oe) (hf : ∃ vs, oe.data = .fields vs) (ec : cls = .ref (T.C c)) (C : XfC X.K (T.C c)) (hno : PySem.W.findIn X.K (.ref (T.C c)) f = some none) (hj : (T.fl c)[j]? = some f)
    (hN : X.N[i]? = some x := by rfl) (hv : Vis X.env.scope x := by first | exact Or.inl rfl | exact Or.inr (Or.inl rfl) | exact Or.inr (Or.inr rfl)) (hd : (x == ("__debug__" : Str)) = false := by decide) (hcd : (x == ("__classdict__" : Str)) = false := by decide)
    (hb : attributeBase (.Name x p) f X.env (eval (.Name x p) X.env) = eval (.Name x p) X.env := by rfl) :
    EV (T.exc (some i) a c ds cls d) (X.suite a ((a, oe) :: pn)) W0 (.Attribute (.Name x p) f pos) (mlift ds[j]?) := by
  intro r w σ H ρ Q s po
  refine sE_of (pe_xf C hno hz hf (pe_var (X := X.suite a ((a, oe) :: pn)) (i := i) hN hv hd hcd) hb) ?_
  have hfx := s.fx i (.ref a) (if_pos rfl)
  obtain ⟨_, dd, fs, vs, e1, e2, e3, e4, e5, e6⟩ := s.pp.2
  refine ⟨_, hfx, rfl, ec, ?_⟩
  obtain ⟨d1, ed, po⟩ := po.lift1
  obtain ⟨v, ev, rv⟩ := e4.get ed
  exact ⟨dd, fs, v, e1, e2, by rw [e6 j f hj, ev], po.ret s (Rep.toB _ _ rv)⟩
end
end Y
set_option Elab.async false
set_option linter.all false
namespace Y
open PySem L2
theorem nBs {B : Nat → Option V} {b : Bool} (hB : ∀ i, (b = true → i ≠ 0) → B i = none) (vs : List Nat) (h : (b && vs.contains 0) = false) : ∀ i ∈ vs, B i = none := fun i hi => hB i fun hb z => by
  subst hb; subst z
  rw [Bool.true_and] at h
  have : vs.contains 0 = true := by simpa using hi
  rw [this] at h; cases h
theorem excB {T : Tb} {i : Option Nat} {a : Addr} {c : Nat} {ds : List D} {cls : Value} {dd : Option Addr} {j : Nat} (h : T.B j = none) (n : i ≠ some j) : (T.exc i a c ds cls dd).B j = none := by
  show (if i = some j then some (V.ref a) else T.B j) = none
  rw [if_neg n]; exact h
end Y
set_option Elab.async false
set_option maxRecDepth 100000
set_option linter.all false
/-! The value layer: a law's end. -/
namespace Y
open PySem L2
open PySem.Spec PyProof.Rows
/-- what the law's def is asked, met by its mirror -/
theorem sp_law {T : Tb} {M : Mir} {H : Hp} {a : Addr} {ns : List Int} (hS : SqL T.K H a (ns.map V.int)) (hM : M [.val (.nd .scr (ns.map D.int))] = .ok (.val (.bl true), .val .non)) :
    spF T 1 false M [.ref a] H (fun v _ => v = .bl true) fun _ _ _ => False := by
  refine ⟨rfl, [.val (.nd .scr (ns.map D.int))], fun _ => none, ⟨rfl, fun j o v e1 e2 => ?_, (fun a k π e => by cases e), (fun a t e => by cases e)⟩, ?_⟩
  · match j, e1, e2 with
    | 0, e1, e2 =>
      cases e1; cases e2
      refine Owns.val.mpr (Rep.node.mpr ⟨a, _, rfl, ⟨trivial, ?_⟩, repL_ints ns⟩)
      rcases hS with h | h
      · exact .inl ⟨rfl, 0, h, fun e => by cases e⟩
      · exact .inr (.inr ⟨rfl, h⟩)
  · rw [hM]
    exact fun v H' w' ow _ _ _ => Rep.bl_.mp (Owns.val.mp ow)
theorem call_law {P : Program} {w : World} {K : PySem.W.Frag} {mg mb : Str → Option Value} {k : Nat} {fa a : Addr} {fd : FuncData} {x : Str} {sp : Sp} {s₁ : Shared} {vs : List Value} {ns : List Int}
    (KX : K.In s₁.heap) (hns : s₁.heap.Ns mainGlobals mg) (hb : s₁.heap.Ns builtinsNs mb) (hbb : ∀ x : Str, x ≠ "__name__" → mb x = bootBuiltins x) (hlim : s₁.heap.NoLimit) (hg : s₁.gens = #[])
    (ha : s₁.heap.get? a = some { cls := .type "list", data := .seq vs.toArray }) (hi : IntsAre vs ns) (hl : ns.length ≤ sizeLine) (hr : Room k callerA)
    (F : ∀ base : Heap, K.In base → base.Ns mainGlobals mg → FnG P w K mg base k fa fd [x] sp) (hbind : ∀ (s : Shared) (u : Value), BindsTo s fd ⟨[u], []⟩ [(x, u)])
    (hsp : ∀ H : Hp, SqL K H a (ns.map V.int) → sp [.ref a] H (fun v _ => v = .bl true) fun _ _ _ => False) :
    codeAny (model P w) callerA (.call (.ref fa) ⟨[.ref a], []⟩) (fun r s' => r = .ok (.ret (.bool true)) ∧ OldK s₁.heap s'.heap ∧ s'.os = s₁.os ∧ AllBare s'.gens) s₁ := by
  have rv := vals_ints hi
  have lenV := hi.length
  suffices core : ∀ H : Hp, (∀ b, H b = none ∨ ∃ o xs, H b = some (.frz o (.lst xs))) → SqL K H a (ns.map V.int) → HOk P w H s₁.heap → (∀ b, H b ≠ none → b = a ∧ K.lookup a = none) →
      codeAny (model P w) callerA (.call (.ref fa) ⟨[.ref a], []⟩) (fun r s' => r = .ok (.ret (.bool true)) ∧ OldK s₁.heap s'.heap ∧ s'.os = s₁.os ∧ AllBare s'.gens) s₁ by
    cases hk : K.lookup a with
    | some o =>
      have e := KX a o hk
      rw [ha] at e; cases e
      exact core (fun _ => none) (fun _ => .inl rfl) (.inr ⟨_, vs.toArray, _, hk, rfl, rfl, rfl, by rw [List.size_toArray, lenV]; exact hl, by simpa using rv⟩) (fun b u z => by cases (show (none : Option HO) = some u from z)) (fun b z => absurd rfl z)
    | none =>
      have at' : ∀ b, (if b = a then some (HO.frz { cls := .type "list", data := .seq vs.toArray } (.lst (ns.map V.int))) else none) ≠ none → b = a := fun b z => by
        by_cases q : b = a
        · exact q
        · exact absurd (if_neg q) z
      refine core (fun b => if b = a then some (HO.frz { cls := .type "list", data := .seq vs.toArray } (.lst (ns.map V.int))) else none) (fun b => ?_) (.inl (.inr ⟨_, if_pos rfl⟩)) (fun b u z => ?_) (fun b z => ⟨at' b z, hk⟩)
      · by_cases q : b = a
        · exact .inr ⟨_, _, if_pos q⟩
        · exact .inl (if_neg q)
      · have q := at' b (fun n => by cases n.symm.trans z)
        subst q
        cases (if_pos rfl).symm.trans z
        exact ⟨ha, by rw [List.length_map]; exact hl, vs, _, rv, ha⟩
  intro H hO hS hok hA
  have keep : ∀ {b : Addr} {m : Str → Option Value}, s₁.heap.Ns b m → (hidT s₁.heap H).Ns b m := fun {b m} ⟨o, es, ep, e, d, r⟩ => by
    refine ⟨o, es, ep, hidT_get e ?_, d, r⟩
    cases q : H b with
    | none => rfl
    | some u =>
      obtain ⟨z, _⟩ := hA b (by rw [q]; simp)
      subst z
      rw [ha] at e; cases e
      cases (show Data.seq vs.toArray _ = Data.dict es ep from d)
  have hKb : K.In (hidT s₁.heap H) := fun b o e => hidT_get (KX b o e) (by
    cases q : H b with
    | none => rfl
    | some u =>
      obtain ⟨z, n⟩ := hA b (by rw [q]; simp)
      subst z
      rw [n] at e; cases e)
  have hM : Mod K mg (hidT s₁.heap H) := ⟨hKb, keep hns, ⟨mb, keep hb, hbb⟩, let ⟨mc, h1, h2⟩ := hlim; ⟨mc, keep h1, h2⟩⟩
  have e0 : Env0 P w K mg (hidT s₁.heap H) callerA [] s₁ H := ⟨rfl, hM, fun b o e => of_hidT e, Nat.le_of_eq (hidT_size _ _), trivial, fun b hb => absurd (show b ∈ ([] : List Addr) from hb) (by simp), hok, .of_eq hg⟩
  refine codeAny_mono ((F _ hKb (keep hns)).run callerA [] s₁ H ⟨[.ref a], []⟩ [.ref a] [.ref a] _ _ rfl hr e0 (hbind s₁ (.ref a)) (.cons rfl .nil) (hsp H hS)) fun r s' h => ?_
  match r, h with
  | .error e, h =>
    obtain ⟨_, _, _, _, _, _, _, _, _, _, _, _, z⟩ := h
    exact z.elim
  | .ok (.ret u), h =>
    obtain ⟨v, H', os, bare, un, hok', r', q⟩ := h
    have q' : v = .bl true := q
    subst q'
    obtain rfl : u = Value.bool true := r'
    refine ⟨rfl, OldK.of_keep fun b o e => ?_, os, bare⟩
    rcases hO b with q | ⟨ob, xs, z⟩
    · exact un.keep b o e q (by intro z; exact absurd (show b ∈ ([] : List Addr) from z) (by simp)) (by simp)
    · obtain ⟨e1, _⟩ := hok b _ z
      obtain ⟨e2, _⟩ := hok' b _ (un.frzs b ob _ z)
      rw [e] at e1; cases e1
      exact e2
/-- THE END: the goal that k_head leaves -/
theorem walk {l : PySem.W.OpenLaw} {n k : Nat} {q : Program} {loose : List Str} {XP : (Str → Option Value) → Heap → Prop} {YP : World → Heap → Prop} {d : DefRec} {K : Params → PySem.W.Frag} {x : Str} {M : Mir}
    (hn : l.most = some n) (hn2 : n ≤ sizeLine) (hdf : d.params.defaults = []) (hr : Room k callerA) (hY : ∀ (w : World) (h : Heap), YP w h → (K w.params).In h)
    (F : ∀ (w : World) (mg : Str → Option Value) (fa : Addr) (h : Heap), (K w.params).In h → h.Ns mainGlobals mg → mg d.name = some (.ref fa) →
      ∃ (fd : FuncData) (T : Tb), T.K = K w.params ∧ (∀ (s : Shared) (u : Value), BindsTo s fd ⟨[u], []⟩ [(x, u)]) ∧
        ∀ base : Heap, (K w.params).In base → base.Ns mainGlobals mg → FnG l.prog w (K w.params) mg base k fa fd [x] (spF T 1 false M))
    (hM : ∀ ns : List Int, ns.length ≤ n → M [.val (.nd .scr (ns.map D.int))] = .ok (.val (.bl true), .val .non)) :
    PySem.W.WalkO q loose XP YP l.row.toRowW d [] (fun f vs => PySem.call f vs) := by
  refine Att.attach_call hn hdf fun w s₀ s₁ mg mb fa o pm cd doc a vs ns G Y ho hd hcd hmg hobj hints hlen hg => ?_
  have KX := hY w _ Y
  obtain ⟨fd, T, hT, hb, hF⟩ := F w mg fa _ KX G.T.g hmg
  exact call_law KX G.T.g G.T.b G.T.builtins G.T.nolimit hg hobj hints (Nat.le_trans hlen hn2) hr hF hb (fun H hS => sp_law (by rw [hT]; exact hS) (hM ns hlen))
end Y
set_option Elab.async false
set_option maxRecDepth 100000
set_option linter.all false
/-! The value layer: isinstance of a caught exception that has fields. -/
namespace Y
open PySem L2
open PySem.Spec PyProof.Rows
/-- what isinstance asks of the exception's class -/
structure XiC (K : PySem.W.Frag) (D : Addr) : Prop where
  hg : PySem.W.findIn K (.ref D) "__getattribute__" = some (some (.builtin "BaseException.__getattribute__"))
  hk : PySem.W.findIn K (.ref D) "__getattr__" = some none
  hs : PySem.W.subIn K (.ref D) (.type "BaseException") = some true
  hd : PySem.W.hasDictIn K D = true
  ha : PySem.W.findIn K (.ref D) "__class__" = some (some (.builtin "object.__class__"))
  hn : PySem.W.specialIn K (.builtin "object.__class__") "__get__" = some (some (.builtin "getset_descriptor.__get__"))
  ht : PySem.W.takesIn K (.builtin "object.__class__") = some true
  hm : PySem.W.mroIn K D (.type "object") = some true
def rIsX (K : PySem.W.Frag) (D a : Addr) (d : Option Addr) : List V → Hp → VK → Prop := fun xs H Q => ∃ (c : V) (cv : Value) (b : Bool) (dd : Addr) (fs : List (Str × V)), xs = [.ref a, c] ∧ d = some dd ∧ H dd = some (.xd fs) ∧ (∀ u, RelV c u → u = cv) ∧ PySem.W.kitOne K (.ref D) cv = some b ∧ Q (.bl b) H
theorem call_isX {X : Cx} {a D : Addr} {d : Option Addr} {oe : Obj} {pn : List (Addr × Obj)} (C : XiC X.K D) (hz : Zc (.ref D) d oe) (hf : ∃ vs, oe.data = .fields vs) : CallR (X.suite a ((a, oe) :: pn)) (.builtin "isinstance") (rIsX X.K D a d) := by
  intro pins s σ H xs us Q I r h
  obtain ⟨c, cv, b, dd, fs, rfl, ed, ea, hcv, e, q⟩ := h
  subst ed
  cases r with
  | cons rx rr =>
    cases rr with
    | cons rt rr =>
      cases rr
      cases rx
      have ec := hcv _ rt
      subst ec
      obtain ⟨hget, _⟩ := I.pin (a, oe) (List.mem_append.mpr (.inl List.mem_cons_self))
      obtain ⟨vs, hv⟩ := hf
      have hx : ObjOk X.prog X.w H s.heap dd (.xd fs) := I.hok dd _ ea
      obtain ⟨mA, hns, hr⟩ := hx
      obtain ⟨od, ho, hl⟩ := lookIn_ns hns
      have J : PySem.W.InstAt s.heap a oe D (some od) := ⟨hget, hz.1, by unfold PySem.W.notCls; rw [hv] <;> rfl, by rw [hz.2]; exact ho⟩
      have hcl : (PySem.W.clsIn X.K D).isSome = true := by
        obtain ⟨cd, hc, _⟩ := PySem.W.any_some C.hd
        rw [hc]; rfl
      exact PySem.W.kia_one (PySem.W.kitx_exc hcl C.hg C.hk C.hs C.ha C.hn C.ht C.hm) I.kIn J e (fun z => nomatch z) fun tk => ⟨.bl b, H, I.kept (t' := tk) fun _ _ z => z, rfl, q⟩
theorem kit_own {K : PySem.W.Frag} {C D : Addr} {b : Bool} (hd : PySem.W.hasDictIn K D = true) (ht : PySem.W.typeIn K (.ref D) = some (.type "type")) (hr : PySem.W.subIn K (.ref D) (.ref D) = some true) (h : PySem.W.subIn K (.ref C) (.ref D) = some b) : PySem.W.kitOne K (.ref C) (.ref D) = some b := by
  obtain ⟨cd, hc, _⟩ := PySem.W.any_some hd
  have e2 : ((PySem.W.clsIn K D).isSome && PySem.W.typeIn K (.ref D) == some (.type "type")) = true := by rw [hc, ht] <;> rfl
  unfold PySem.W.kitOne
  split
  · rename_i q
    have e : C = D := Value.ref.inj (beq_iff_eq.mp q)
    subst e
    rw [← h, hr]
  · show (if _ then _ else _) = _
    rw [if_pos e2]; exact h
theorem kit_typ {K : PySem.W.Frag} {C : Addr} {t : String} {b : Bool} (hm : PySem.W.kitMeta t = true) (h : PySem.W.subIn K (.ref C) (.type t) = some b) : PySem.W.kitOne K (.ref C) (.type t) = some b := by
  unfold PySem.W.kitOne
  rw [if_neg (show ¬((Value.ref C == Value.type t) = true) from fun z => by cases beq_iff_eq.mp z)]
  show (if _ then _ else _) = _
  rw [if_pos hm]; exact h
section
variable {T : Tb} {X : Cx}
/-- isinstance(e, C) in the suite that holds e -/
theorem ev_isE {i c : Nat} {a : Addr} {oe : Obj} {cls : Value} {d : Option Addr} {pn : List (Addr × Obj)} {ds : List D} {x y : Str} {p p3 q pos : Pos} {v : V} {cv : Value} {mt : Nat → Option Bool} (hz : Zc cls d oe) (hf : ∃ vs, oe.data = .fields vs) (ec : cls = .ref (T.C c)) (C : XiC X.K (T.C c))
    (hg : Gl X "isinstance") (hm : X.mg "isinstance" = none) (hb : PE (X.suite a ((a, oe) :: pn)) (.Name y p3) (tC v)) (hcv : ∀ u, RelV v u → u = cv) (hk : ∀ b, mt c = some b → PySem.W.kitOne X.K (.ref (T.C c)) cv = some b)
    (hN : X.N[i]? = some x := by rfl) (hv : Vis X.env.scope x := by first | exact Or.inl rfl | exact Or.inr (Or.inl rfl) | exact Or.inr (Or.inr rfl)) (hd : (x == ("__debug__" : Str)) = false := by decide) (hcd : (x == ("__classdict__" : Str)) = false := by decide)
    (h1 : starEach [.Name x p, .Name y p3] X.env = (false, eval (.Name x p) X.env) :: starEach [.Name y p3] X.env := by rfl) (h2 : starEach [.Name y p3] X.env = (false, eval (.Name y p3) X.env) :: starEach [] X.env := by rfl) (hpl : (backTo pos (starEach [.Name y p3] X.env)).any (·.1) = false := by rfl) :
    EV (T.exc (some i) a c ds cls d) (X.suite a ((a, oe) :: pn)) W0 (.Call (.Name "isinstance" q) [.Name x p, .Name y p3] [] pos) (mlift ((mt c).map .bl)) := by
  intro r w σ H ρ Q s po
  subst ec
  refine sE_of (pe_callB (X := X.suite a ((a, oe) :: pn)) (call_isX C hz hf) hg hm (by decide +kernel) (pa_cons (pe_var (X := X.suite a ((a, oe) :: pn)) (i := i) hN hv hd hcd) (pa_cons hb pa_nil h2) h1) (by decide) (by decide) h1 hpl) ?_
  have hfx := s.fx i (.ref a) (if_pos rfl)
  obtain ⟨_, dd, fs, vs, e1, e2, e3, e4, e5, e6⟩ := s.pp.2
  obtain ⟨b, ed, po⟩ := po.lift1
  simp only [Option.map_eq_some_iff] at ed
  obtain ⟨b, ed, rfl⟩ := ed
  exact ⟨_, hfx, v, cv, b, dd, fs, rfl, e1, e2, hcv, hk b ed, po.ret s (Rep.bl_.mpr rfl)⟩
end
theorem fn_stuck {P : Program} {w : World} {K : PySem.W.Frag} {mg : Str → Option Value} {base : Heap} {k n : Nat} {f : Addr} {fd : FuncData} {ps : List Str} {T : Tb} {b : Bool} (hn : ps.length = n := by rfl) : FnG P w K mg base k f fd ps (spF T n b fun _ => .stuck) :=
  ⟨fun vs H Q E h => by rw [hn]; exact h.1, fun _ _ _ _ _ _ _ _ _ _ _ _ _ _ h => by obtain ⟨_, _, _, _, po⟩ := h; exact po.elim⟩
end Y
set_option Elab.async false
set_option maxRecDepth 100000
set_option linter.all false
/-! Evaluation of mirrors: simp lemmas. -/
namespace Y
open PySem L2
theorem nr {α : Sort _} {a b : α} (h : a = b) : a = b := by cases h; exact Eq.trans rfl rfl
section
variable {α β : Type} {a : α} {ρ : Env}
@[simp] theorem v_ret : mret a ρ = .ok (a, ρ) := nr rfl
@[simp] theorem v_bind {f : M α} {g : α → M β} : mbind f g ρ = (match f ρ with | .ok (a, ρ') => g a ρ' | .er c ds ρ' => .er c ds ρ' | .stuck => .stuck) := nr rfl
@[simp] theorem v_lift {x : α} : mlift (some x) ρ = .ok (x, ρ) := nr rfl
@[simp] theorem v_m1 {g : D → Option D} {f : M D} : m1 g f = mbind f fun a => mlift (g a) := nr rfl
@[simp] theorem v_m2 {g : D → D → Option D} {f h : M D} : m2 g f h = mbind f fun a => mbind h fun b => mlift (g a b) := nr rfl
@[simp] theorem v_mL {g : List D → Option D} {f : M (List D)} : mL g f = mbind f fun a => mlift (g a) := nr rfl
@[simp] theorem v_o1 {g : D → Option (List D)} {f : M D} : o1 g f = mbind f fun a => mbind (mlift (g a)) fun l => mret (nl l) := nr rfl
@[simp] theorem v_o2 {g : D → D → Option (List D)} {f h : M D} : o2 g f h = mbind f fun a => mbind h fun b => mbind (mlift (g a b)) fun l => mret (nl l) := nr rfl
@[simp] theorem v_oL {g : List D → Option (List D)} {f : M (List D)} : oL g f = mbind f fun a => mbind (mlift (g a)) fun l => mret (nl l) := nr rfl
@[simp] theorem v_fz {f : M O} : mfz f = mbind f fun o => mret o.fz := nr rfl
@[simp] theorem v_val {f : M D} : mval f = mbind f fun d => mret (.val d) := nr rfl
@[simp] theorem v_fzval {d : D} : (O.val d).fz = d := nr rfl
@[simp] theorem v_nlfz {ds : List D} : (nl ds).fz = .nd .lst ds := nl_fz ds
@[simp] theorem v_cons {f : M D} {g : M (List D)} : mcons f g = mbind f fun d => mbind g fun ds => mret (d :: ds) := nr rfl
theorem rd_ap {i : Nat} {d : D} (h : ρ[i]? = some (some (.val d))) : rd i ρ = .ok (d, ρ) := by unfold rd; rw [h]
@[simp] theorem v_rd0 {d : D} {ρ : Env} : rd 0 (some (.val d) :: ρ) = .ok (d, some (.val d) :: ρ) := nr rfl
@[simp] theorem v_rd1 {d : D} {x : Option O} {ρ : Env} : rd 1 (x :: some (.val d) :: ρ) = .ok (d, x :: some (.val d) :: ρ) := nr rfl
@[simp] theorem v_rd2 {d : D} {x y : Option O} {ρ : Env} : rd 2 (x :: y :: some (.val d) :: ρ) = .ok (d, x :: y :: some (.val d) :: ρ) := nr rfl
@[simp] theorem v_rd3 {d : D} {x y z : Option O} {ρ : Env} : rd 3 (x :: y :: z :: some (.val d) :: ρ) = .ok (d, x :: y :: z :: some (.val d) :: ρ) := nr rfl
@[simp] theorem v_rd4 {d : D} {x y z u : Option O} {ρ : Env} : rd 4 (x :: y :: z :: u :: some (.val d) :: ρ) = .ok (d, x :: y :: z :: u :: some (.val d) :: ρ) := nr rfl
@[simp] theorem v_rd5 {d : D} {x y z u v : Option O} {ρ : Env} : rd 5 (x :: y :: z :: u :: v :: some (.val d) :: ρ) = .ok (d, x :: y :: z :: u :: v :: some (.val d) :: ρ) := nr rfl
@[simp] theorem v_rd6 {d : D} {x y z u v w : Option O} {ρ : Env} : rd 6 (x :: y :: z :: u :: v :: w :: some (.val d) :: ρ) = .ok (d, x :: y :: z :: u :: v :: w :: some (.val d) :: ρ) := nr rfl
@[simp] theorem v_rd7 {d : D} {x y z u v w q : Option O} {ρ : Env} : rd 7 (x :: y :: z :: u :: v :: w :: q :: some (.val d) :: ρ) = .ok (d, x :: y :: z :: u :: v :: w :: q :: some (.val d) :: ρ) := nr rfl
@[simp] theorem v_rd8 {d : D} {x y z u v w q r : Option O} {ρ : Env} : rd 8 (x :: y :: z :: u :: v :: w :: q :: r :: some (.val d) :: ρ) = .ok (d, x :: y :: z :: u :: v :: w :: q :: r :: some (.val d) :: ρ) := nr rfl
@[simp] theorem v_rd9 {d : D} {x y z u v w q r s : Option O} {ρ : Env} : rd 9 (x :: y :: z :: u :: v :: w :: q :: r :: s :: some (.val d) :: ρ) = .ok (d, x :: y :: z :: u :: v :: w :: q :: r :: s :: some (.val d) :: ρ) := nr rfl
@[simp] theorem v_rd10 {d : D} {x y z u v w q r s t : Option O} {ρ : Env} : rd 10 (x :: y :: z :: u :: v :: w :: q :: r :: s :: t :: some (.val d) :: ρ) = .ok (d, x :: y :: z :: u :: v :: w :: q :: r :: s :: t :: some (.val d) :: ρ) := nr rfl
@[simp] theorem v_tru {f : M D} : mtru f = mbind f fun d => mlift (truD d) := nr rfl
@[simp] theorem v_bl {f : M D} : mbl f = mbind f fun d => mlift (blD d) := nr rfl
@[simp] theorem v_blD {b : Bool} : blD (.bl b) = some b := nr rfl
@[simp] theorem v_truB {b : Bool} : truD (.bl b) = some b := nr rfl
@[simp] theorem v_truN : truD .non = some false := nr rfl
@[simp] theorem v_truI {i : Int} : truD (.int i) = some (i != 0) := nr rfl
@[simp] theorem v_not {g : M Bool} : mnot g = mbind g fun b => mret !b := nr rfl
@[simp] theorem v_and {f g : M Bool} : mand f g = mbind f fun b => if b = true then g else mret false := nr rfl
@[simp] theorem v_or {f g : M Bool} : mor f g = mbind f fun b => if b = true then mret true else g := nr rfl
@[simp] theorem v_andV {f g : M D} : mandV f g = mbind f fun d => mbind (mlift (truD d)) fun b => if b = true then g else mret d := nr rfl
@[simp] theorem v_orV {f g : M D} : morV f g = mbind f fun d => mbind (mlift (truD d)) fun b => if b = true then mret d else g := nr rfl
@[simp] theorem v_notV {f : M D} : mnotV f = mbind f fun d => mbind (mlift (truD d)) fun b => mret (.bl !b) := nr rfl
@[simp] theorem v_if {c : M Bool} {f g : M α} : mif c f g = mbind c fun b => if b = true then f else g := nr rfl
@[simp] theorem v_chain {g g' : D → D → Option D} {fa fb fc : M D} : mchain g g' fa fb fc = mbind fa fun a => mbind fb fun b => mbind (mlift (g a b)) fun d => mbind (mlift (blD d)) fun k =>
  if k = true then mbind fc fun c => mlift (g' b c) else mret (.bl false) := nr rfl
/-- a branch, applied -/
@[simp] theorem v_ite {c : Prop} [Decidable c] {f g : Env → β} : (if c then f else g) ρ = if c then f ρ else g ρ := by split <;> rfl
@[simp] theorem v_call {F : Mir} {fs : M (List D)} : mcall F fs = mbind fs fun ds ρ => match F (ds.map .val) with
  | .ok (o, _) => .ok (o, ρ)
  | .er c es _ => .er c es ρ
  | .stuck => .stuck := nr rfl
@[simp] theorem v_callK {F : Mir} {pm : List Nat} {fs : M (List D)} : mcallK F pm fs = mcall F (mbind fs fun ds => mret (ro pm ds)) := nr rfl
@[simp] theorem v_callR0 {F : Mir} {fs : M (List D)} {o : O} : mcallR F 0 fs (some o :: ρ) = mbind fs (fun ds => callAt F 0 ds) (some o :: ρ) := nr rfl
@[simp] theorem v_callAt0 {F : Mir} {ds : List D} {o : O} : callAt F 0 ds (some o :: ρ) = (match F (o :: ds.map .val) with
    | .ok (o, o1) => .ok (o, some o1 :: ρ)
    | .er c es _ => .er c es (none :: ρ)
    | .stuck => .stuck) := by
  show (match F (o :: ds.map .val) with
    | .ok (o, o1) => Res.ok (o, (some _ :: ρ).set 0 (some o1))
    | .er c es _ => .er c es ((some _ :: ρ).set 0 none)
    | .stuck => .stuck) = _
  cases F (o :: ds.map .val) <;> rfl
/-! statements -/
@[simp] theorem v_skip : sskip ρ = .nx ρ := nr rfl
@[simp] theorem v_seq {m n : MS} : sseq m n ρ = (match m ρ with | .nx ρ' => n ρ' | x => x) := nr rfl
@[simp] theorem v_after {f : M α} {k : α → MS} : after f k ρ = (match f ρ with | .ok (a, ρ') => k a ρ' | .er c ds ρ' => .er c ds ρ' | .stuck => .stuck) := nr rfl
@[simp] theorem v_drop {f : M α} : sdrop f = after f fun _ => .nx := nr rfl
@[simp] theorem v_set {i : Nat} {f : M D} : sset i f = after f fun d ρ => .nx (ρ.set i (some (.val d))) := nr rfl
@[simp] theorem v_setO {i : Nat} {f : M O} : ssetO i f = after f fun o ρ => .nx (ρ.set i (some o)) := nr rfl
@[simp] theorem v_sret {f : M O} : sret f = after f .rt := nr rfl
@[simp] theorem v_sretN : sretN = .rt (.val .non) := nr rfl
@[simp] theorem v_sif {c : M Bool} {m n : MS} : sif c m n = after c fun b => if b = true then m else n := nr rfl
@[simp] theorem v_bind' {b : D → Env → Option Env} {f : M D} : sbind b f = after f fun d ρ => match b d ρ with
  | some ρ1 => .nx ρ1
  | none => .stuck := nr rfl
@[simp] theorem v_par {i j : Nat} {f : M (List D)} : spar i j f = after f fun ds ρ => match ds with
  | [a, b] => .nx ((ρ.set i (some (.val a))).set j (some (.val b)))
  | _ => .stuck := nr rfl
@[simp] theorem v_raise {c : Nat} {f : M (List D)} : sraise c f = after f fun ds ρ => .er c ds ρ := nr rfl
@[simp] theorem v_bname {i : Nat} {d : D} : bname i d ρ = some (ρ.set i (some (.val d))) := nr rfl
@[simp] theorem v_bnil : bnil [] ρ = some ρ := nr rfl
@[simp] theorem v_bcons {b : D → Env → Option Env} {bs : List D → Env → Option Env} {d : D} {ds : List D} : bcons b bs (d :: ds) ρ = (b d ρ).bind fun ρ1 => bs ds ρ1 := nr rfl
@[simp] theorem v_btup {n : Nat} {bs : List D → Env → Option Env} {ds : List D} : btup n bs (.nd .tup ds) ρ = if ds.length = n then bs ds ρ else none := nr rfl
@[simp] theorem v_iseq {f : M D} : iseq f = mbind f fun d => mlift d.seq := nr rfl
@[simp] theorem v_seqT {ds : List D} : D.seq (.nd .tup ds) = some ds := nr rfl
@[simp] theorem v_seqL {ds : List D} : D.seq (.nd .lst ds) = some ds := nr rfl
@[simp] theorem v_seqS {ds : List D} : D.seq (.nd .scr ds) = some ds := nr rfl
@[simp] theorem v_lsqL {ds : List D} : D.lsq (.nd .lst ds) = some ds := nr rfl
@[simp] theorem v_lsqS {ds : List D} : D.lsq (.nd .scr ds) = some ds := nr rfl
@[simp] theorem v_ienum {f : M D} : ienum f = mbind f fun d => mbind (mlift d.seq) fun ds => mret (enumL ds) := nr rfl
@[simp] theorem v_comp {vs : List Nat} {i : M (List D)} {bb : D → Env → Option Env} {c : M Bool} {f : M D} : mcomp vs i bb c f = mbind i fun ds => mbind (loopC vs bb c f ds []) fun l => mret (nl l) := nr rfl
@[simp] theorem v_sfor {f : M (List D)} {bb : D → Env → Option Env} {b : MS} : sfor f bb b = after f fun ds => loopF bb b ds := nr rfl
/-! data -/
variable {i j : Int} {ds es : List D}
@[simp] theorem v_addI : addD (.int i) (.int j) = some (.int (i + j)) := nr rfl
@[simp] theorem v_subI : subD (.int i) (.int j) = some (.int (i - j)) := nr rfl
@[simp] theorem v_negI : negD (.int i) = some (.int (-i)) := nr rfl
@[simp] theorem v_lt : cmpI p (.int i) (.int j) = some (.bl (p i j)) := nr rfl
@[simp] theorem v_addI' : addI (.int i) (.int j) = some (.int (i + j)) := nr rfl
theorem v_addT (h : ds.length + es.length ≤ sizeLine) : addD (.nd .tup ds) (.nd .tup es) = some (.nd .tup (ds ++ es)) := by unfold addD; exact if_pos h
theorem v_catL (h : ds.length + es.length ≤ sizeLine) : catD (.nd .lst ds) (.nd .lst es) = some (ds ++ es) := by unfold catD; exact if_pos h
theorem v_tup (h : ds.length ≤ sizeLine) : tupD ds = some (.nd .tup ds) := if_pos h
theorem v_lst (h : ds.length ≤ sizeLine) : lstD ds = some ds := if_pos h
@[simp] theorem v_tup0 : tupD [] = some (.nd .tup []) := nr rfl
@[simp] theorem v_tup1 {a : D} : tupD [a] = some (.nd .tup [a]) := nr rfl
@[simp] theorem v_tup2 {a b : D} : tupD [a, b] = some (.nd .tup [a, b]) := nr rfl
@[simp] theorem v_tup3 {a b c : D} : tupD [a, b, c] = some (.nd .tup [a, b, c]) := nr rfl
@[simp] theorem v_lst0 : lstD [] = some [] := nr rfl
@[simp] theorem v_lenT : lenD [.nd .tup ds] = some (.int ds.length) := nr rfl
@[simp] theorem v_lenL : lenD [.nd .lst ds] = some (.int ds.length) := nr rfl
@[simp] theorem v_lenS : lenD [.nd .scr ds] = some (.int ds.length) := nr rfl
@[simp] theorem v_intI : intD [.int i] = some (.int i) := nr rfl
@[simp] theorem v_intB {b : Bool} : intD [.bl b] = some (.int (if b then 1 else 0)) := nr rfl
@[simp] theorem v_absI : absD [.int i] = some (.int (if i < 0 then -i else i)) := nr rfl
@[simp] theorem v_tupleL : tupleD [.nd .lst ds] = some (.nd .tup ds) := nr rfl
@[simp] theorem v_tupleT : tupleD [.nd .tup ds] = some (.nd .tup ds) := nr rfl
@[simp] theorem v_tupleS : tupleD [.nd .scr ds] = some (.nd .tup ds) := nr rfl
@[simp] theorem v_listL : listD [.nd .lst ds] = some ds := nr rfl
@[simp] theorem v_listT : listD [.nd .tup ds] = some ds := nr rfl
@[simp] theorem v_listS : listD [.nd .scr ds] = some ds := nr rfl
@[simp] theorem v_revT : revT (.nd .tup ds) = some (.nd .tup ds.reverse) := nr rfl
theorem v_mod (h : j ≠ 0) : modD (.int i) (.int j) = some (.int (i.fmod j)) := by unfold modD; exact if_pos h
theorem v_mul (h : mulOk i j = true) : mulD (.int i) (.int j) = some (.int (i * j)) := by unfold mulD; exact if_pos h
theorem v_div (h : divOk j = true) : divD (.int i) (.int j) = some (.int (i.fdiv j)) := by unfold divD; exact if_pos h
@[simp] theorem v_eqI : eqDv (.int i) (.int j) = some (.bl (decide (i = j))) := by
  simp [eqDv, eqD, D.py, SeqAt.shaped, PyData.canLay0, PyData.depth, PyData.eqv]
  rfl
@[simp] theorem v_neI : neDv (.int i) (.int j) = some (.bl (!decide (i = j))) := by
  simp [neDv, eqD, D.py, SeqAt.shaped, PyData.canLay0, PyData.depth, PyData.eqv]
  rfl
@[simp] theorem v_eqB {a b : Bool} : eqDv (.bl a) (.bl b) = some (.bl (a == b)) := by
  simp [eqDv, eqD, D.py, SeqAt.shaped, PyData.canLay0, PyData.depth, PyData.eqv]
theorem atI_nat {α : Type} {xs : List α} {n : Nat} {x : α} (h : xs[n]? = some x) : L2.atI xs (n : Int) = some x := by
  obtain ⟨hn, _⟩ := List.getElem?_eq_some_iff.mp h
  unfold L2.atI L2.ixN
  rw [if_pos (Int.natCast_nonneg n), if_pos (by exact_mod_cast hn)]
  exact h
theorem v_ixN {k : Kd} {n : Nat} {d : D} (hk : (D.nd k ds).seq = some ds) (h : ds[n]? = some d) : ixD (.nd k ds) (.int (n : Int)) = some d := by
  show ((D.nd k ds).seq.bind fun ds => L2.atI ds (n : Int)) = some d
  rw [hk]; exact atI_nat h
theorem v_ixT {n : Nat} {d : D} (h : ds[n]? = some d) : ixD (.nd .tup ds) (.int (n : Int)) = some d := v_ixN rfl h
theorem v_ixL {n : Nat} {d : D} (h : ds[n]? = some d) : ixD (.nd .lst ds) (.int (n : Int)) = some d := v_ixN rfl h
end
/-! defs -/
theorem v_defV {n : Nat} {m : MS} {os : List O} {o : O} {ρ : Env} (h : m (os.map some ++ List.replicate (n - os.length) none) = .rt o ρ) : defM n false m os = .ok (o, .val .non) := by
  unfold defM; rw [h]; rfl
theorem v_defN {n : Nat} {m : MS} {os : List O} {ρ : Env} (h : m (os.map some ++ List.replicate (n - os.length) none) = .nx ρ) : defM n false m os = .ok (.val .non, .val .non) := by
  unfold defM; rw [h]; rfl
theorem v_defE {n : Nat} {m : MS} {os : List O} {c : Nat} {ds : List D} {ρ : Env} {b : Bool} (h : m (os.map some ++ List.replicate (n - os.length) none) = .er c ds ρ) : defM n b m os = .er c ds [] := by
  unfold defM; rw [h]
theorem v_defR {n : Nat} {m : MS} {os : List O} {o o1 : O} {ρ : Env} (h : m (os.map some ++ List.replicate (n - os.length) none) = .rt o (some o1 :: ρ)) : defM n true m os = .ok (o, o1) := by
  unfold defM; rw [h]; rfl
/-! loops -/
/-- a comprehension of one name whose element is a function of the item -/
theorem v_compF {v : Nat} {f : M D} {g : D → D} {ρ : Env} (P : D → Prop) (h : ∀ d, P d → f ((ρ.set v none).set v (some (.val d))) = .ok (g d, (ρ.set v none).set v (some (.val d)))) :
    ∀ {ds acc : List D}, (∀ d ∈ ds, P d) → acc.length + ds.length ≤ sizeLine → loopC [v] (bname v) (mret true) f ds acc (ρ.set v none) = .ok (acc ++ ds.map g, ρ.set v none)
  | [], acc, _, _ => by simp [loopC, wipeE]
  | d :: ds, acc, hp, hl => by
    have h1 := h d (hp d List.mem_cons_self)
    have ih := v_compF P h (ds := ds) (acc := acc ++ [g d]) (fun x hx => hp x (List.mem_cons_of_mem _ hx)) (by simp at hl ⊢; omega)
    have hlt : acc.length < sizeLine := by simp at hl; omega
    unfold loopC
    simp only [wipeE, List.set_set, v_bname, v_ret] at h1 ih ⊢
    rw [h1]
    simp only [if_pos hlt]
    have e : loopC [v] (bname v) (mret true) f ds (acc ++ [g d]) (ρ.set v (some (.val d))) = loopC [v] (bname v) (mret true) f ds (acc ++ [g d]) (ρ.set v none) := by
      cases ds with
      | nil => simp [loopC, wipeE]
      | cons x xs => simp [loopC, wipeE]
    rw [e, ih]
    simp
end Y
set_option Elab.async false
set_option maxRecDepth 100000
set_option linter.all false
/-! Evaluation of mirrors: owned lists of values in slots. -/
namespace Y
open PySem L2
section
variable {ρ ρ' : Env} {i : Nat} {ds : List D} {d : D}
theorem getE_nl {o : O} (h : ρ[i]? = some (some o)) : atP ρ (i, []) = some o := by unfold atP getE; simp [h, getP]
theorem putE_nl {o x : O} (h : ρ[i]? = some (some o)) : putE ρ i [] x = ρ.set i (some x) := by unfold putE; simp [h, putP]
theorem xplen_nl (h : ρ[i]? = some (some (nl ds))) : xplen (pvar i) ρ = some (.int ds.length) := by
  unfold xplen pvar; simp [getE_nl h, nl]
theorem atI_map {α β : Type} {xs : List α} {f : α → β} {j : Int} : L2.atI (xs.map f) j = (L2.atI xs j).map f := by
  unfold L2.atI; rw [List.length_map]; cases L2.ixN xs.length j <;> simp
theorem xpix_nl {g : Env → Option D} (h : ρ[i]? = some (some (nl ds))) : xpix (pvar i) g ρ = (g ρ).bind fun n => match n with
    | .int j => L2.atI ds j
    | _ => none := by
  unfold xpix pvar; simp [getE_nl h, nl]
  cases e : g ρ with
  | none => rfl
  | some n =>
    cases n <;> simp
    rw [atI_map]
    cases L2.atI ds _ <;> rfl
theorem pop_nl (h : ρ[i]? = some (some (nl ds))) (hd : ds.getLast? = some d) : mlm gPop (pvar i) (fun _ => some []) ρ = .ok (d, ρ.set i (some (nl ds.dropLast))) := by
  unfold mlm pvar isL upP
  simp [getE_nl h, nl, gPop, putE_nl h, List.getLast?_map, hd, List.map_dropLast]
theorem app_nl {f : M (List D)} {ds0 : List D} (h0 : ρ[i]? = some (some (nl ds0))) (hf : f ρ = .ok ([d], ρ')) (h : ρ'[i]? = some (some (nl ds))) (hl : ds.length < sizeLine) : mlmN gApp i f ρ = .ok (.non, ρ'.set i (some (nl (ds ++ [d])))) := by
  unfold mlmN isL upP
  simp [getE_nl h0, nl, hf]
  simp [getE_nl h, nl, gApp, hl, putE_nl h]
theorem mpfz_nl (h : ρ[i]? = some (some (nl ds))) : mpfz (pvar i) ρ = .ok (.nd .lst ds, ρ.set i (some (.val (.nd .lst ds)))) := by
  unfold mpfz pvar
  simp [getE_nl h, putE_nl h]
theorem mpfz_val (h : ρ[i]? = some (some (.val d))) : mpfz (pvar i) ρ = .ok (d, ρ.set i (some (.val d))) := by
  unfold mpfz pvar
  simp [getE_nl h, putE_nl h]
theorem ssub_nl {gi : Env → Option D} {f : M D} {j : Int} {k : Nat} (hf : f ρ = .ok (d, ρ')) (hg : gi ρ' = some (.int j)) (h : ρ'[i]? = some (some (nl ds))) (hk : L2.ixN ds.length j = some k) : ssub (pvar i) gi f ρ = .nx (ρ'.set i (some (nl (ds.set k d)))) := by
  unfold ssub pvar
  simp [hf, hg, getE_nl h, nl, gSet, hk, putE_nl h, List.map_set]
theorem xvar_ap (h : ρ[i]? = some (some (.val d))) : xvar i ρ = some d := by unfold xvar; rw [h]
end
@[simp] theorem v_mex {g : Env → Option D} {ρ : Env} : mex g ρ = (match g ρ with | some d => .ok (d, ρ) | none => .stuck) := nr rfl
@[simp] theorem v_x2 {g : D → D → Option D} {a b : Env → Option D} {ρ : Env} : x2 g a b ρ = (a ρ).bind fun x => (b ρ).bind fun y => g x y := nr rfl
@[simp] theorem v_x1 {g : D → Option D} {a : Env → Option D} {ρ : Env} : x1 g a ρ = (a ρ).bind g := nr rfl
theorem atI_lit {α : Type} {xs : List α} {j : Int} (h0 : 0 ≤ j) : L2.atI xs j = xs[j.toNat]? := by
  unfold L2.atI L2.ixN
  rw [if_pos h0]
  by_cases h : j < xs.length
  · rw [if_pos h]; rfl
  · rw [if_neg h, List.getElem?_eq_none (by omega)]; rfl
theorem atI_neg1 {α : Type} {xs : List α} : L2.atI xs (-1) = xs.getLast? := by
  unfold L2.atI L2.ixN
  rw [if_neg (by decide)]
  cases xs with
  | nil => rfl
  | cons x xs =>
    rw [if_pos (by simp; omega), List.getLast?_eq_getElem?]
    simp only [Option.bind]
    congr 1
    simp
    omega
@[simp] theorem v_xplen0 {ds : List D} {ρ : Env} : xplen (pvar 0) (some (nl ds) :: ρ) = some (.int ds.length) := xplen_nl rfl
@[simp] theorem v_xpix0 {ds : List D} {ρ : Env} {g : Env → Option D} : xpix (pvar 0) g (some (nl ds) :: ρ) = (g (some (nl ds) :: ρ)).bind fun n => match n with | .int j => L2.atI ds j | _ => none := xpix_nl rfl
@[simp] theorem v_mpfz0 {ds : List D} {ρ : Env} : mpfz (pvar 0) (some (nl ds) :: ρ) = .ok (.nd .lst ds, (some (.val (.nd .lst ds)) :: ρ)) := mpfz_nl rfl
@[simp] theorem v_mpfzv0 {d : D} {ρ : Env} : mpfz (pvar 0) (some (.val d) :: ρ) = .ok (d, (some (.val d) :: ρ)) := mpfz_val rfl
@[simp] theorem v_xvar0 {d : D} {ρ : Env} : xvar 0 (some (.val d) :: ρ) = some d := nr rfl
@[simp] theorem v_mmv0 {o : O} {ρ : Env} : mmv 0 (some o :: ρ) = .ok (o, (none :: ρ)) := nr rfl
@[simp] theorem v_xplen1 {x0 : Option O} {ds : List D} {ρ : Env} : xplen (pvar 1) (x0 :: some (nl ds) :: ρ) = some (.int ds.length) := xplen_nl rfl
@[simp] theorem v_xpix1 {x0 : Option O} {ds : List D} {ρ : Env} {g : Env → Option D} : xpix (pvar 1) g (x0 :: some (nl ds) :: ρ) = (g (x0 :: some (nl ds) :: ρ)).bind fun n => match n with | .int j => L2.atI ds j | _ => none := xpix_nl rfl
@[simp] theorem v_mpfz1 {x0 : Option O} {ds : List D} {ρ : Env} : mpfz (pvar 1) (x0 :: some (nl ds) :: ρ) = .ok (.nd .lst ds, (x0 :: some (.val (.nd .lst ds)) :: ρ)) := mpfz_nl rfl
@[simp] theorem v_mpfzv1 {x0 : Option O} {d : D} {ρ : Env} : mpfz (pvar 1) (x0 :: some (.val d) :: ρ) = .ok (d, (x0 :: some (.val d) :: ρ)) := mpfz_val rfl
@[simp] theorem v_xvar1 {x0 : Option O} {d : D} {ρ : Env} : xvar 1 (x0 :: some (.val d) :: ρ) = some d := nr rfl
@[simp] theorem v_mmv1 {x0 : Option O} {o : O} {ρ : Env} : mmv 1 (x0 :: some o :: ρ) = .ok (o, (x0 :: none :: ρ)) := nr rfl
@[simp] theorem v_xplen2 {x0 x1 : Option O} {ds : List D} {ρ : Env} : xplen (pvar 2) (x0 :: x1 :: some (nl ds) :: ρ) = some (.int ds.length) := xplen_nl rfl
@[simp] theorem v_xpix2 {x0 x1 : Option O} {ds : List D} {ρ : Env} {g : Env → Option D} : xpix (pvar 2) g (x0 :: x1 :: some (nl ds) :: ρ) = (g (x0 :: x1 :: some (nl ds) :: ρ)).bind fun n => match n with | .int j => L2.atI ds j | _ => none := xpix_nl rfl
@[simp] theorem v_mpfz2 {x0 x1 : Option O} {ds : List D} {ρ : Env} : mpfz (pvar 2) (x0 :: x1 :: some (nl ds) :: ρ) = .ok (.nd .lst ds, (x0 :: x1 :: some (.val (.nd .lst ds)) :: ρ)) := mpfz_nl rfl
@[simp] theorem v_mpfzv2 {x0 x1 : Option O} {d : D} {ρ : Env} : mpfz (pvar 2) (x0 :: x1 :: some (.val d) :: ρ) = .ok (d, (x0 :: x1 :: some (.val d) :: ρ)) := mpfz_val rfl
@[simp] theorem v_xvar2 {x0 x1 : Option O} {d : D} {ρ : Env} : xvar 2 (x0 :: x1 :: some (.val d) :: ρ) = some d := nr rfl
@[simp] theorem v_mmv2 {x0 x1 : Option O} {o : O} {ρ : Env} : mmv 2 (x0 :: x1 :: some o :: ρ) = .ok (o, (x0 :: x1 :: none :: ρ)) := nr rfl
@[simp] theorem v_xplen3 {x0 x1 x2 : Option O} {ds : List D} {ρ : Env} : xplen (pvar 3) (x0 :: x1 :: x2 :: some (nl ds) :: ρ) = some (.int ds.length) := xplen_nl rfl
@[simp] theorem v_xpix3 {x0 x1 x2 : Option O} {ds : List D} {ρ : Env} {g : Env → Option D} : xpix (pvar 3) g (x0 :: x1 :: x2 :: some (nl ds) :: ρ) = (g (x0 :: x1 :: x2 :: some (nl ds) :: ρ)).bind fun n => match n with | .int j => L2.atI ds j | _ => none := xpix_nl rfl
@[simp] theorem v_mpfz3 {x0 x1 x2 : Option O} {ds : List D} {ρ : Env} : mpfz (pvar 3) (x0 :: x1 :: x2 :: some (nl ds) :: ρ) = .ok (.nd .lst ds, (x0 :: x1 :: x2 :: some (.val (.nd .lst ds)) :: ρ)) := mpfz_nl rfl
@[simp] theorem v_mpfzv3 {x0 x1 x2 : Option O} {d : D} {ρ : Env} : mpfz (pvar 3) (x0 :: x1 :: x2 :: some (.val d) :: ρ) = .ok (d, (x0 :: x1 :: x2 :: some (.val d) :: ρ)) := mpfz_val rfl
@[simp] theorem v_xvar3 {x0 x1 x2 : Option O} {d : D} {ρ : Env} : xvar 3 (x0 :: x1 :: x2 :: some (.val d) :: ρ) = some d := nr rfl
@[simp] theorem v_mmv3 {x0 x1 x2 : Option O} {o : O} {ρ : Env} : mmv 3 (x0 :: x1 :: x2 :: some o :: ρ) = .ok (o, (x0 :: x1 :: x2 :: none :: ρ)) := nr rfl
@[simp] theorem v_xplen4 {x0 x1 x2 x3 : Option O} {ds : List D} {ρ : Env} : xplen (pvar 4) (x0 :: x1 :: x2 :: x3 :: some (nl ds) :: ρ) = some (.int ds.length) := xplen_nl rfl
@[simp] theorem v_xpix4 {x0 x1 x2 x3 : Option O} {ds : List D} {ρ : Env} {g : Env → Option D} : xpix (pvar 4) g (x0 :: x1 :: x2 :: x3 :: some (nl ds) :: ρ) = (g (x0 :: x1 :: x2 :: x3 :: some (nl ds) :: ρ)).bind fun n => match n with | .int j => L2.atI ds j | _ => none := xpix_nl rfl
@[simp] theorem v_mpfz4 {x0 x1 x2 x3 : Option O} {ds : List D} {ρ : Env} : mpfz (pvar 4) (x0 :: x1 :: x2 :: x3 :: some (nl ds) :: ρ) = .ok (.nd .lst ds, (x0 :: x1 :: x2 :: x3 :: some (.val (.nd .lst ds)) :: ρ)) := mpfz_nl rfl
@[simp] theorem v_mpfzv4 {x0 x1 x2 x3 : Option O} {d : D} {ρ : Env} : mpfz (pvar 4) (x0 :: x1 :: x2 :: x3 :: some (.val d) :: ρ) = .ok (d, (x0 :: x1 :: x2 :: x3 :: some (.val d) :: ρ)) := mpfz_val rfl
@[simp] theorem v_xvar4 {x0 x1 x2 x3 : Option O} {d : D} {ρ : Env} : xvar 4 (x0 :: x1 :: x2 :: x3 :: some (.val d) :: ρ) = some d := nr rfl
@[simp] theorem v_mmv4 {x0 x1 x2 x3 : Option O} {o : O} {ρ : Env} : mmv 4 (x0 :: x1 :: x2 :: x3 :: some o :: ρ) = .ok (o, (x0 :: x1 :: x2 :: x3 :: none :: ρ)) := nr rfl
@[simp] theorem v_xplen5 {x0 x1 x2 x3 x4 : Option O} {ds : List D} {ρ : Env} : xplen (pvar 5) (x0 :: x1 :: x2 :: x3 :: x4 :: some (nl ds) :: ρ) = some (.int ds.length) := xplen_nl rfl
@[simp] theorem v_xpix5 {x0 x1 x2 x3 x4 : Option O} {ds : List D} {ρ : Env} {g : Env → Option D} : xpix (pvar 5) g (x0 :: x1 :: x2 :: x3 :: x4 :: some (nl ds) :: ρ) = (g (x0 :: x1 :: x2 :: x3 :: x4 :: some (nl ds) :: ρ)).bind fun n => match n with | .int j => L2.atI ds j | _ => none := xpix_nl rfl
@[simp] theorem v_mpfz5 {x0 x1 x2 x3 x4 : Option O} {ds : List D} {ρ : Env} : mpfz (pvar 5) (x0 :: x1 :: x2 :: x3 :: x4 :: some (nl ds) :: ρ) = .ok (.nd .lst ds, (x0 :: x1 :: x2 :: x3 :: x4 :: some (.val (.nd .lst ds)) :: ρ)) := mpfz_nl rfl
@[simp] theorem v_mpfzv5 {x0 x1 x2 x3 x4 : Option O} {d : D} {ρ : Env} : mpfz (pvar 5) (x0 :: x1 :: x2 :: x3 :: x4 :: some (.val d) :: ρ) = .ok (d, (x0 :: x1 :: x2 :: x3 :: x4 :: some (.val d) :: ρ)) := mpfz_val rfl
@[simp] theorem v_xvar5 {x0 x1 x2 x3 x4 : Option O} {d : D} {ρ : Env} : xvar 5 (x0 :: x1 :: x2 :: x3 :: x4 :: some (.val d) :: ρ) = some d := nr rfl
@[simp] theorem v_mmv5 {x0 x1 x2 x3 x4 : Option O} {o : O} {ρ : Env} : mmv 5 (x0 :: x1 :: x2 :: x3 :: x4 :: some o :: ρ) = .ok (o, (x0 :: x1 :: x2 :: x3 :: x4 :: none :: ρ)) := nr rfl
@[simp] theorem v_xplen6 {x0 x1 x2 x3 x4 x5 : Option O} {ds : List D} {ρ : Env} : xplen (pvar 6) (x0 :: x1 :: x2 :: x3 :: x4 :: x5 :: some (nl ds) :: ρ) = some (.int ds.length) := xplen_nl rfl
@[simp] theorem v_xpix6 {x0 x1 x2 x3 x4 x5 : Option O} {ds : List D} {ρ : Env} {g : Env → Option D} : xpix (pvar 6) g (x0 :: x1 :: x2 :: x3 :: x4 :: x5 :: some (nl ds) :: ρ) = (g (x0 :: x1 :: x2 :: x3 :: x4 :: x5 :: some (nl ds) :: ρ)).bind fun n => match n with | .int j => L2.atI ds j | _ => none := xpix_nl rfl
@[simp] theorem v_mpfz6 {x0 x1 x2 x3 x4 x5 : Option O} {ds : List D} {ρ : Env} : mpfz (pvar 6) (x0 :: x1 :: x2 :: x3 :: x4 :: x5 :: some (nl ds) :: ρ) = .ok (.nd .lst ds, (x0 :: x1 :: x2 :: x3 :: x4 :: x5 :: some (.val (.nd .lst ds)) :: ρ)) := mpfz_nl rfl
@[simp] theorem v_mpfzv6 {x0 x1 x2 x3 x4 x5 : Option O} {d : D} {ρ : Env} : mpfz (pvar 6) (x0 :: x1 :: x2 :: x3 :: x4 :: x5 :: some (.val d) :: ρ) = .ok (d, (x0 :: x1 :: x2 :: x3 :: x4 :: x5 :: some (.val d) :: ρ)) := mpfz_val rfl
@[simp] theorem v_xvar6 {x0 x1 x2 x3 x4 x5 : Option O} {d : D} {ρ : Env} : xvar 6 (x0 :: x1 :: x2 :: x3 :: x4 :: x5 :: some (.val d) :: ρ) = some d := nr rfl
@[simp] theorem v_mmv6 {x0 x1 x2 x3 x4 x5 : Option O} {o : O} {ρ : Env} : mmv 6 (x0 :: x1 :: x2 :: x3 :: x4 :: x5 :: some o :: ρ) = .ok (o, (x0 :: x1 :: x2 :: x3 :: x4 :: x5 :: none :: ρ)) := nr rfl
/-- a place is set, once its value is known -/
def ssubk (p : Env → Option (Nat × List Nat)) (gi : Env → Option D) (d : D) : MS := fun ρ => match p ρ, gi ρ with
  | some q, some (.int i) => (match atP ρ q with
    | some (.nd .lst os) => (match gSet os i d with
      | some os' => .nx (putE ρ q.1 q.2 (.nd .lst os'))
      | none => .stuck)
    | _ => .stuck)
  | _, _ => .stuck
@[simp] theorem v_ssub {p : Env → Option (Nat × List Nat)} {gi : Env → Option D} {f : M D} {ρ : Env} : ssub p gi f ρ = (match f ρ with | .ok (d, ρ') => ssubk p gi d ρ' | .er c ds ρ' => .er c ds ρ' | .stuck => .stuck) := by
  unfold ssub after
  cases f ρ with
  | ok q => obtain ⟨d, ρ'⟩ := q; exact Eq.trans rfl rfl
  | er c ds ρ' => exact Eq.trans rfl rfl
  | stuck => exact Eq.trans rfl rfl
theorem ssubk_nl {i : Nat} {ds : List D} {ρ : Env} {gi : Env → Option D} {d : D} (h : ρ[i]? = some (some (nl ds))) : ssubk (pvar i) gi d ρ = (match gi ρ with
    | some (.int j) => (match L2.ixN ds.length j with
      | some k => .nx (ρ.set i (some (nl (ds.set k d))))
      | none => .stuck)
    | _ => .stuck) := by
  unfold ssubk pvar
  cases e : gi ρ with
  | none => rfl
  | some n =>
    cases n <;> simp
    simp only [getE_nl h, nl, gSet, List.length_map]
    cases L2.ixN ds.length _ with
    | none => rfl
    | some k => simp [putE_nl h, List.map_set]
@[simp] theorem v_ssubk0 {ds : List D} {ρ : Env} {gi : Env → Option D} {d : D} : ssubk (pvar 0) gi d (some (nl ds) :: ρ) = (match gi (some (nl ds) :: ρ) with | some (.int j) => (match L2.ixN ds.length j with | some k => .nx (some (nl (ds.set k d)) :: ρ) | none => .stuck) | _ => .stuck) := ssubk_nl rfl
@[simp] theorem v_ssubk1 {x0 : Option O} {ds : List D} {ρ : Env} {gi : Env → Option D} {d : D} : ssubk (pvar 1) gi d (x0 :: some (nl ds) :: ρ) = (match gi (x0 :: some (nl ds) :: ρ) with | some (.int j) => (match L2.ixN ds.length j with | some k => .nx (x0 :: some (nl (ds.set k d)) :: ρ) | none => .stuck) | _ => .stuck) := ssubk_nl rfl
@[simp] theorem v_ssubk2 {x0 x1 : Option O} {ds : List D} {ρ : Env} {gi : Env → Option D} {d : D} : ssubk (pvar 2) gi d (x0 :: x1 :: some (nl ds) :: ρ) = (match gi (x0 :: x1 :: some (nl ds) :: ρ) with | some (.int j) => (match L2.ixN ds.length j with | some k => .nx (x0 :: x1 :: some (nl (ds.set k d)) :: ρ) | none => .stuck) | _ => .stuck) := ssubk_nl rfl
@[simp] theorem v_ssubk3 {x0 x1 x2 : Option O} {ds : List D} {ρ : Env} {gi : Env → Option D} {d : D} : ssubk (pvar 3) gi d (x0 :: x1 :: x2 :: some (nl ds) :: ρ) = (match gi (x0 :: x1 :: x2 :: some (nl ds) :: ρ) with | some (.int j) => (match L2.ixN ds.length j with | some k => .nx (x0 :: x1 :: x2 :: some (nl (ds.set k d)) :: ρ) | none => .stuck) | _ => .stuck) := ssubk_nl rfl
@[simp] theorem v_ssubk4 {x0 x1 x2 x3 : Option O} {ds : List D} {ρ : Env} {gi : Env → Option D} {d : D} : ssubk (pvar 4) gi d (x0 :: x1 :: x2 :: x3 :: some (nl ds) :: ρ) = (match gi (x0 :: x1 :: x2 :: x3 :: some (nl ds) :: ρ) with | some (.int j) => (match L2.ixN ds.length j with | some k => .nx (x0 :: x1 :: x2 :: x3 :: some (nl (ds.set k d)) :: ρ) | none => .stuck) | _ => .stuck) := ssubk_nl rfl
@[simp] theorem v_ssubk5 {x0 x1 x2 x3 x4 : Option O} {ds : List D} {ρ : Env} {gi : Env → Option D} {d : D} : ssubk (pvar 5) gi d (x0 :: x1 :: x2 :: x3 :: x4 :: some (nl ds) :: ρ) = (match gi (x0 :: x1 :: x2 :: x3 :: x4 :: some (nl ds) :: ρ) with | some (.int j) => (match L2.ixN ds.length j with | some k => .nx (x0 :: x1 :: x2 :: x3 :: x4 :: some (nl (ds.set k d)) :: ρ) | none => .stuck) | _ => .stuck) := ssubk_nl rfl
@[simp] theorem v_ssubk6 {x0 x1 x2 x3 x4 x5 : Option O} {ds : List D} {ρ : Env} {gi : Env → Option D} {d : D} : ssubk (pvar 6) gi d (x0 :: x1 :: x2 :: x3 :: x4 :: x5 :: some (nl ds) :: ρ) = (match gi (x0 :: x1 :: x2 :: x3 :: x4 :: x5 :: some (nl ds) :: ρ) with | some (.int j) => (match L2.ixN ds.length j with | some k => .nx (x0 :: x1 :: x2 :: x3 :: x4 :: x5 :: some (nl (ds.set k d)) :: ρ) | none => .stuck) | _ => .stuck) := ssubk_nl rfl
end Y
set_option Elab.async false
set_option maxRecDepth 100000
set_option linter.all false
/-! Walking mirrors: what follows is a wish Q of the rest's end. -/
namespace Y
open PySem L2
section
variable {Q : Fl → Prop} {m n m1 m2 : MS} {ρ ρ' ρ1 : Env}
/-- the wish behind a block's first part -/
def Kq (n : MS) (Q : Fl → Prop) : Fl → Prop
  | .nx ρ => Q (n ρ)
  | .bk ρ => Q (.bk ρ)
  | .ct ρ => Q (.ct ρ)
  | .rt o ρ => Q (.rt o ρ)
  | .er c ds ρ => Q (.er c ds ρ)
  | .stuck => Q .stuck
theorem seq_up (h : Kq n Q (m ρ)) : Q (sseq m n ρ) := by
  rw [v_seq]
  cases e : m ρ <;> rw [e] at h <;> exact h
theorem seq_nx (h : m ρ = .nx ρ') (k : Q (n ρ')) : Q (sseq m n ρ) := seq_up (by rw [h]; exact k)
theorem seq_rt {o : O} (h : m ρ = .rt o ρ') (k : Q (.rt o ρ')) : Q (sseq m n ρ) := seq_up (by rw [h]; exact k)
theorem seq_er {c : Nat} {ds : List D} (h : m ρ = .er c ds ρ') (k : Q (.er c ds ρ')) : Q (sseq m n ρ) := seq_up (by rw [h]; exact k)
theorem seq_bk (h : m ρ = .bk ρ') (k : Q (.bk ρ')) : Q (sseq m n ρ) := seq_up (by rw [h]; exact k)
theorem seq_ct (h : m ρ = .ct ρ') (k : Q (.ct ρ')) : Q (sseq m n ρ) := seq_up (by rw [h]; exact k)
theorem if_b {c : M Bool} {b : Bool} (h : c ρ = .ok (b, ρ1)) (k : Q ((if b = true then m1 else m2) ρ1)) : Q (sif c m1 m2 ρ) := by
  rw [v_sif, v_after, h]; exact k
theorem if_t {c : M Bool} (h : c ρ = .ok (true, ρ1)) (k : Q (m1 ρ1)) : Q (sif c m1 m2 ρ) := if_b h k
theorem if_f {c : M Bool} (h : c ρ = .ok (false, ρ1)) (k : Q (m2 ρ1)) : Q (sif c m1 m2 ρ) := if_b h k
theorem seq_if {c : M Bool} {b : Bool} (h : c ρ = .ok (b, ρ1)) (k : Q (sseq (if b = true then m1 else m2) n ρ1)) : Q (sseq (sif c m1 m2) n ρ) := by
  refine seq_up (if_b h ?_)
  revert k
  rw [v_seq]
  intro k
  cases e : (if b = true then m1 else m2) ρ1 <;> rw [e] at k <;> exact k
theorem seq_t {c : M Bool} (h : c ρ = .ok (true, ρ1)) (k : Q (sseq m1 n ρ1)) : Q (sseq (sif c m1 m2) n ρ) := seq_if h k
theorem seq_f {c : M Bool} (h : c ρ = .ok (false, ρ1)) (k : Q (sseq m2 n ρ1)) : Q (sseq (sif c m1 m2) n ρ) := seq_if h k
theorem seq_skip (k : Q (n ρ)) : Q (sseq sskip n ρ) := k
/-- blocks within blocks -/
theorem seq_as {k : MS} (h : Q (sseq m (sseq n k) ρ)) : Q (sseq (sseq m n) k ρ) := by
  revert h
  simp only [v_seq]
  cases m ρ <;> exact fun h => h
/-- a block is cut behind its first part -/
def Md (Q : Fl → Prop) (J : Env → Prop) : Fl → Prop
  | .nx ρ => J ρ
  | .ct ρ => Q (.ct ρ)
  | .bk ρ => Q (.bk ρ)
  | .rt o ρ => Q (.rt o ρ)
  | .er c ds ρ => Q (.er c ds ρ)
  | .stuck => False
theorem seq_cut (J : Env → Prop) (h : Md Q J (m ρ)) (k : ∀ ρ', J ρ' → Q (n ρ')) : Q (sseq m n ρ) := by
  refine seq_up ?_
  revert h
  cases m ρ <;> first | exact fun h => k _ h | exact fun h => h | exact fun h => h.elim
theorem md_nx {J : Env → Prop} (h : m ρ = .nx ρ') (k : J ρ') : Md Q J (m ρ) := by rw [h]; exact k
theorem md_rt {J : Env → Prop} {o : O} (h : m ρ = .rt o ρ') (k : Q (.rt o ρ')) : Md Q J (m ρ) := by rw [h]; exact k
theorem md_er {J : Env → Prop} {c : Nat} {ds : List D} (h : m ρ = .er c ds ρ') (k : Q (.er c ds ρ')) : Md Q J (m ρ) := by rw [h]; exact k
/-- a part is over, with the wish J of what goes on -/
def Lp (Q : Fl → Prop) (J : Env → Prop) : Fl → Prop
  | .nx ρ => J ρ
  | .ct ρ => J ρ
  | .bk ρ => Q (.nx ρ)
  | .rt o ρ => Q (.rt o ρ)
  | .er c ds ρ => Q (.er c ds ρ)
  | .stuck => False
theorem lp_nx {J : Env → Prop} (h : m ρ = .nx ρ') (k : J ρ') : Lp Q J (m ρ) := by rw [h]; exact k
theorem lp_ct {J : Env → Prop} (h : m ρ = .ct ρ') (k : J ρ') : Lp Q J (m ρ) := by rw [h]; exact k
theorem lp_bk {J : Env → Prop} (h : m ρ = .bk ρ') (k : Q (.nx ρ')) : Lp Q J (m ρ) := by rw [h]; exact k
theorem lp_rt {J : Env → Prop} {o : O} (h : m ρ = .rt o ρ') (k : Q (.rt o ρ')) : Lp Q J (m ρ) := by rw [h]; exact k
theorem q_nx (h : m ρ = .nx ρ') (k : Q (.nx ρ')) : Q (m ρ) := by rw [h]; exact k
theorem q_rt {o : O} (h : m ρ = .rt o ρ') (k : Q (.rt o ρ')) : Q (m ρ) := by rw [h]; exact k
theorem q_er {c : Nat} {ds : List D} (h : m ρ = .er c ds ρ') (k : Q (.er c ds ρ')) : Q (m ρ) := by rw [h]; exact k
theorem for_ix {bb : D → Env → Option Env} {b : MS} {ds : List D} (I : Nat → Env → Prop) (hs : ∀ k d ρ, ds[k]? = some d → I k ρ → ∃ ρ1, bb d ρ = some ρ1 ∧ Lp Q (I (k + 1)) (b ρ1)) (hz : ∀ ρ, I ds.length ρ → Q (.nx ρ)) : I 0 ρ → Q (loopF bb b ds ρ) := by
  have key : ∀ (j : Nat) (es : List D) (ρ : Env), es = ds.drop j → j + es.length = ds.length → I j ρ → Q (loopF bb b es ρ) := by
    intro j es
    induction es generalizing j with
    | nil =>
      intro ρ e hl h
      have : j = ds.length := by simpa using hl
      subst this
      exact hz ρ h
    | cons d es ih =>
      intro ρ e hl h
      have hd : ds[j]? = some d := by
        have : (ds.drop j)[0]? = some d := by rw [← e]; rfl
        simpa using this
      have he : es = ds.drop (j + 1) := by
        have : (ds.drop j).tail = es := by rw [← e]; rfl
        rw [← this, List.tail_drop]
      have hl' : j + 1 + es.length = ds.length := by simp at hl; omega
      obtain ⟨ρ1, e1, k⟩ := hs j d ρ hd h
      unfold loopF
      rw [e1]
      dsimp only
      cases eb : b ρ1 with
      | nx ρ2 => rw [eb] at k; exact ih (j + 1) ρ2 he hl' k
      | ct ρ2 => rw [eb] at k; exact ih (j + 1) ρ2 he hl' k
      | bk ρ2 => rw [eb] at k; exact k
      | rt o ρ2 => rw [eb] at k; exact k
      | er c ds ρ2 => rw [eb] at k; exact k
      | stuck => rw [eb] at k; exact k.elim
  exact key 0 ds ρ rfl (by simp)
theorem sfor_ix {i : M (List D)} {bb : D → Env → Option Env} {b : MS} {ds : List D} (I : Nat → Env → Prop) (hi : i ρ = .ok (ds, ρ1)) (h0 : I 0 ρ1) (hs : ∀ k d ρ, ds[k]? = some d → I k ρ → ∃ ρ1, bb d ρ = some ρ1 ∧ Lp Q (I (k + 1)) (b ρ1)) (hz : ∀ ρ, I ds.length ρ → Q (.nx ρ)) : Q (sfor i bb b ρ) := by
  rw [v_sfor, v_after, hi]
  exact for_ix I hs hz h0
theorem seq_for {i : M (List D)} {bb : D → Env → Option Env} {b : MS} {ds : List D} (I : Nat → Env → Prop) (hi : i ρ = .ok (ds, ρ1)) (h0 : I 0 ρ1) (hs : ∀ k d ρ, ds[k]? = some d → I k ρ → ∃ ρ1, bb d ρ = some ρ1 ∧ Lp (Kq n Q) (I (k + 1)) (b ρ1)) (hz : ∀ ρ, I ds.length ρ → Q (n ρ)) : Q (sseq (sfor i bb b) n ρ) :=
  seq_up (sfor_ix I hi h0 hs hz)
theorem while_ix {c : M Bool} {b : MS} (I : Nat → Env → Prop) (h : ∀ k ρ, I k ρ → (∃ ρ1, c ρ = .ok (false, ρ1) ∧ Q (.nx ρ1)) ∨ (∃ ρ1, c ρ = .ok (true, ρ1) ∧ Lp Q (fun ρ => ∃ j, j < k ∧ I j ρ) (b ρ1))) {k : Nat} (hk : k < 1000000000000) (h0 : I k ρ) : Q (swhile c b ρ) := by
  have key : ∀ (fu k : Nat) (ρ : Env), k < fu → I k ρ → Q (loopW c b fu ρ) := by
    intro fu
    induction fu with
    | zero => intro k ρ hk; omega
    | succ fu ih =>
      intro k ρ hk h0
      unfold loopW
      rcases h k ρ h0 with ⟨ρ1, e1, q⟩ | ⟨ρ1, e1, q⟩
      · rw [e1]; exact q
      · rw [e1]
        dsimp only
        cases eb : b ρ1 with
        | nx ρ2 => rw [eb] at q; obtain ⟨j, hj, q⟩ := q; exact ih j ρ2 (by omega) q
        | ct ρ2 => rw [eb] at q; obtain ⟨j, hj, q⟩ := q; exact ih j ρ2 (by omega) q
        | bk ρ2 => rw [eb] at q; exact q
        | rt o ρ2 => rw [eb] at q; exact q
        | er c ds ρ2 => rw [eb] at q; exact q
        | stuck => rw [eb] at q; exact q.elim
  exact key fuel k ρ hk h0
theorem seq_while {c : M Bool} {b : MS} (I : Nat → Env → Prop) (h : ∀ k ρ, I k ρ → (∃ ρ1, c ρ = .ok (false, ρ1) ∧ Q (n ρ1)) ∨ (∃ ρ1, c ρ = .ok (true, ρ1) ∧ Lp (Kq n Q) (fun ρ => ∃ j, j < k ∧ I j ρ) (b ρ1))) {k : Nat} (hk : k < 1000000000000) (h0 : I k ρ) : Q (sseq (swhile c b) n ρ) :=
  seq_up (while_ix I h hk h0)
end
/-! ### comprehensions -/
theorem comp_ix {vs : List Nat} {bb : D → Env → Option Env} {c : M Bool} {f : M D} {ds : List D} {ρ : Env} (I : Nat → List D → Env → Prop)
    (h : ∀ k acc d ρ, ds[k]? = some d → I k acc ρ → ∃ ρ1, bb d ρ = some ρ1 ∧ ((∃ ρ2 y ρ3, c ρ1 = .ok (true, ρ2) ∧ f ρ2 = .ok (y, ρ3) ∧ acc.length < sizeLine ∧ I (k + 1) (acc ++ [y]) (wipeE ρ3 vs)) ∨ (∃ ρ2, c ρ1 = .ok (false, ρ2) ∧ I (k + 1) acc (wipeE ρ2 vs))))
    (h0 : I 0 [] (wipeE ρ vs)) : ∃ l ρ', loopC vs bb c f ds [] ρ = .ok (l, ρ') ∧ I ds.length l ρ' := by
  have key : ∀ (es : List D) (j : Nat) (acc : List D) (ρ : Env), es = ds.drop j → j + es.length = ds.length → I j acc (wipeE ρ vs) → ∃ l ρ', loopC vs bb c f es acc ρ = .ok (l, ρ') ∧ I ds.length l ρ' := by
    intro es
    induction es with
    | nil =>
      intro j acc ρ e hl h
      have : j = ds.length := by simpa using hl
      subst this
      exact ⟨acc, _, rfl, h⟩
    | cons d es ih =>
      intro j acc ρ e hl h1
      have hd : ds[j]? = some d := by
        have : (ds.drop j)[0]? = some d := by rw [← e]; rfl
        simpa using this
      have he : es = ds.drop (j + 1) := by
        have : (ds.drop j).tail = es := by rw [← e]; rfl
        rw [← this, List.tail_drop]
      have hl' : j + 1 + es.length = ds.length := by simp at hl; omega
      obtain ⟨ρ1, e1, k⟩ := h j acc d _ hd h1
      unfold loopC
      rw [e1]
      dsimp only
      rcases k with ⟨ρ2, y, ρ3, e2, e3, hz, k⟩ | ⟨ρ2, e2, k⟩
      · rw [e2]
        dsimp only
        rw [e3]
        dsimp only
        rw [if_pos hz]
        exact ih (j + 1) (acc ++ [y]) ρ3 he hl' k
      · rw [e2]
        exact ih (j + 1) acc ρ2 he hl' k
  exact key ds 0 [] ρ rfl (by simp) h0
theorem mcomp_ix {vs : List Nat} {i : M (List D)} {bb : D → Env → Option Env} {c : M Bool} {f : M D} {ds : List D} {ρ ρ1 : Env} (I : Nat → List D → Env → Prop) (hi : i ρ = .ok (ds, ρ1))
    (h0 : I 0 [] (wipeE ρ1 vs)) (h : ∀ k acc d ρ, ds[k]? = some d → I k acc ρ → ∃ ρ1, bb d ρ = some ρ1 ∧ ((∃ ρ2 y ρ3, c ρ1 = .ok (true, ρ2) ∧ f ρ2 = .ok (y, ρ3) ∧ acc.length < sizeLine ∧ I (k + 1) (acc ++ [y]) (wipeE ρ3 vs)) ∨ (∃ ρ2, c ρ1 = .ok (false, ρ2) ∧ I (k + 1) acc (wipeE ρ2 vs))))
    : ∃ l ρ', mcomp vs i bb c f ρ = .ok (nl l, ρ') ∧ I ds.length l ρ' := by
  obtain ⟨l, ρ', e, k⟩ := comp_ix I h h0
  exact ⟨l, ρ', by rw [v_comp, v_bind, hi]; dsimp only; rw [v_bind, e]; rfl, k⟩
/-- a comprehension of one name, nothing changed by it -/
theorem mcomp_pure {v : Nat} {i : M (List D)} {c : M Bool} {f : M D} {p : D → Bool} {g : D → D} {ds : List D} {ρ ρ1 : Env} (hi : i ρ = .ok (ds, ρ1)) (hv : ρ1.set v none = ρ1) (hl : ds.length ≤ sizeLine)
    (hc : ∀ d ∈ ds, c (ρ1.set v (some (.val d))) = .ok (p d, ρ1.set v (some (.val d)))) (hf : ∀ d ∈ ds, p d = true → f (ρ1.set v (some (.val d))) = .ok (g d, ρ1.set v (some (.val d)))) :
    mcomp [v] i (bname v) c f ρ = .ok (nl ((ds.filter p).map g), ρ1) := by
  have hw : ∀ x : Option O, wipeE (ρ1.set v x) [v] = ρ1 := fun x => by simp [wipeE, hv]
  obtain ⟨l, ρ', e, k⟩ := mcomp_ix (vs := [v]) (i := i) (bb := bname v) (c := c) (f := f) (I := fun k acc ρ => ρ = ρ1 ∧ acc = ((ds.take k).filter p).map g) hi ⟨by simp [wipeE, hv], by simp⟩ (by
    rintro k acc d ρ hd ⟨rfl, rfl⟩
    refine ⟨_, rfl, ?_⟩
    have hm : d ∈ ds := List.mem_of_getElem? hd
    have hk : k < ds.length := (List.getElem?_eq_some_iff.mp hd).1
    have ht : ds.take (k + 1) = ds.take k ++ [d] := by
      rw [List.take_add_one, hd]; rfl
    cases hp : p d with
    | true =>
      have h1 := hc d hm
      rw [hp] at h1
      refine .inl ⟨_, _, _, h1, hf d hm hp, ?_, hw _, ?_⟩
      · rw [List.length_map]
        have := List.length_filter_le p (ds.take k)
        simp only [List.length_take] at this
        omega
      · rw [ht, List.filter_append, List.map_append]; simp [hp]
    | false =>
      have h1 := hc d hm
      rw [hp] at h1
      refine .inr ⟨_, h1, hw _, ?_⟩
      rw [ht, List.filter_append, List.map_append]; simp [hp])
  obtain ⟨rfl, rfl⟩ := k
  rw [e, List.take_length]
theorem mcomp_map {v : Nat} {i : M (List D)} {f : M D} {g : D → D} {ds : List D} {ρ ρ1 : Env} (hi : i ρ = .ok (ds, ρ1)) (hv : ρ1.set v none = ρ1) (hl : ds.length ≤ sizeLine)
    (hf : ∀ d ∈ ds, f (ρ1.set v (some (.val d))) = .ok (g d, ρ1.set v (some (.val d)))) :
    mcomp [v] i (bname v) (mret true) f ρ = .ok (nl (ds.map g), ρ1) := by
  have h := mcomp_pure (c := mret true) (p := fun _ => true) hi hv hl (fun d hd => rfl) (fun d hd _ => hf d hd)
  rwa [List.filter_eq_self.mpr (by simp)] at h
/-! ### defs -/
/-- the wish of a def's body: an answer o as P wishes it -/
def FnF (P : O → Prop) : Fl → Prop
  | .rt o _ => P o
  | .nx _ => P (.val .non)
  | _ => False
/-- .. and what the first argument has become -/
def FnT (P : O → O → Prop) : Fl → Prop
  | .rt o (some o1 :: _) => P o o1
  | .nx (some o1 :: _) => P (.val .non) o1
  | _ => False
/-- .. an exception -/
def FnE (P : Nat → List D → Prop) : Fl → Prop
  | .er c ds _ => P c ds
  | _ => False
section
variable {n : Nat} {m : MS} {os : List O}
theorem fn_F {P : O → Prop} (h : FnF P (m (os.map some ++ List.replicate (n - os.length) none))) : ∃ o, defM n false m os = .ok (o, .val .non) ∧ P o := by
  unfold defM
  revert h
  cases m (os.map some ++ List.replicate (n - os.length) none) <;> simp [FnF]
theorem fn_V {o : O} (h : FnF (fun x => x = o) (m (os.map some ++ List.replicate (n - os.length) none))) : defM n false m os = .ok (o, .val .non) := by
  obtain ⟨o', e, rfl⟩ := fn_F h
  exact e
theorem fn_T {P : O → O → Prop} (h : FnT P (m (os.map some ++ List.replicate (n - os.length) none))) : ∃ o o1, defM n true m os = .ok (o, o1) ∧ P o o1 := by
  unfold defM
  revert h
  cases e : m (os.map some ++ List.replicate (n - os.length) none) with
  | rt o ρ =>
    intro h
    match ρ, h with
    | some o1 :: _, h => exact ⟨o, o1, rfl, h⟩
    | [], h => exact h.elim
    | none :: _, h => exact h.elim
  | nx ρ =>
    intro h
    match ρ, h with
    | some o1 :: _, h => exact ⟨_, o1, rfl, h⟩
    | [], h => exact h.elim
    | none :: _, h => exact h.elim
  | bk ρ => exact fun h => h.elim
  | ct ρ => exact fun h => h.elim
  | er c ds ρ => exact fun h => h.elim
  | stuck => exact fun h => h.elim
theorem fn_E {b : Bool} {P : Nat → List D → Prop} (h : FnE P (m (os.map some ++ List.replicate (n - os.length) none))) : ∃ c ds, defM n b m os = .er c ds [] ∧ P c ds := by
  unfold defM
  revert h
  cases m (os.map some ++ List.replicate (n - os.length) none) <;> simp [FnE]
  exact fun h => ⟨_, _, ⟨rfl, rfl⟩, h⟩
end
end Y
set_option Elab.async false
set_option maxRecDepth 100000
set_option linter.all false
/-! Plain data: what built-in functions make of it. -/
namespace Y
open PySem L2
/-! ### isinstance -/
theorem kit_facts : (kitB "int" "int" = some true ∧ kitB "bool" "int" = some true ∧ kitB "str" "int" = some false ∧ kitB "NoneType" "int" = some false ∧ kitB "tuple" "int" = some false ∧ kitB "list" "int" = some false) ∧
  (kitB "int" "bool" = some false ∧ kitB "bool" "bool" = some true ∧ kitB "str" "bool" = some false ∧ kitB "NoneType" "bool" = some false ∧ kitB "tuple" "bool" = some false ∧ kitB "list" "bool" = some false) ∧
  (kitB "int" "tuple" = some false ∧ kitB "bool" "tuple" = some false ∧ kitB "str" "tuple" = some false ∧ kitB "NoneType" "tuple" = some false ∧ kitB "tuple" "tuple" = some true ∧ kitB "list" "tuple" = some false) ∧
  (kitB "int" "list" = some false ∧ kitB "bool" "list" = some false ∧ kitB "str" "list" = some false ∧ kitB "NoneType" "list" = some false ∧ kitB "tuple" "list" = some false ∧ kitB "list" "list" = some true) ∧
  (kitB "int" "str" = some false ∧ kitB "bool" "str" = some false ∧ kitB "str" "str" = some true ∧ kitB "NoneType" "str" = some false ∧ kitB "tuple" "str" = some false ∧ kitB "list" "str" = some false) := by decide +kernel
section
variable {i : Int} {b : Bool} {x : Str} {ds : List D}
@[simp] theorem isi_int_int : isiD "int" (.int i) = some (.bl true) := by simp [isiD, tynD, kit_facts]
@[simp] theorem isi_int_bl : isiD "int" (.bl b) = some (.bl true) := by simp [isiD, tynD, kit_facts]
@[simp] theorem isi_int_str : isiD "int" (.str x) = some (.bl false) := by simp [isiD, tynD, kit_facts]
@[simp] theorem isi_int_non : isiD "int" .non = some (.bl false) := by simp [isiD, tynD, kit_facts]
@[simp] theorem isi_int_tup : isiD "int" (.nd .tup ds) = some (.bl false) := by simp [isiD, tynD, kit_facts]
@[simp] theorem isi_int_lst : isiD "int" (.nd .lst ds) = some (.bl false) := by simp [isiD, tynD, kit_facts]
@[simp] theorem isi_bool_int : isiD "bool" (.int i) = some (.bl false) := by simp [isiD, tynD, kit_facts]
@[simp] theorem isi_bool_bl : isiD "bool" (.bl b) = some (.bl true) := by simp [isiD, tynD, kit_facts]
@[simp] theorem isi_bool_str : isiD "bool" (.str x) = some (.bl false) := by simp [isiD, tynD, kit_facts]
@[simp] theorem isi_bool_non : isiD "bool" .non = some (.bl false) := by simp [isiD, tynD, kit_facts]
@[simp] theorem isi_bool_tup : isiD "bool" (.nd .tup ds) = some (.bl false) := by simp [isiD, tynD, kit_facts]
@[simp] theorem isi_bool_lst : isiD "bool" (.nd .lst ds) = some (.bl false) := by simp [isiD, tynD, kit_facts]
@[simp] theorem isi_tup_int : isiD "tuple" (.int i) = some (.bl false) := by simp [isiD, tynD, kit_facts]
@[simp] theorem isi_tup_bl : isiD "tuple" (.bl b) = some (.bl false) := by simp [isiD, tynD, kit_facts]
@[simp] theorem isi_tup_str : isiD "tuple" (.str x) = some (.bl false) := by simp [isiD, tynD, kit_facts]
@[simp] theorem isi_tup_non : isiD "tuple" .non = some (.bl false) := by simp [isiD, tynD, kit_facts]
@[simp] theorem isi_tup_tup : isiD "tuple" (.nd .tup ds) = some (.bl true) := by simp [isiD, tynD, kit_facts]
@[simp] theorem isi_tup_lst : isiD "tuple" (.nd .lst ds) = some (.bl false) := by simp [isiD, tynD, kit_facts]
@[simp] theorem isi_lst_int : isiD "list" (.int i) = some (.bl false) := by simp [isiD, tynD, kit_facts]
@[simp] theorem isi_lst_bl : isiD "list" (.bl b) = some (.bl false) := by simp [isiD, tynD, kit_facts]
@[simp] theorem isi_lst_str : isiD "list" (.str x) = some (.bl false) := by simp [isiD, tynD, kit_facts]
@[simp] theorem isi_lst_non : isiD "list" .non = some (.bl false) := by simp [isiD, tynD, kit_facts]
@[simp] theorem isi_lst_tup : isiD "list" (.nd .tup ds) = some (.bl false) := by simp [isiD, tynD, kit_facts]
@[simp] theorem isi_lst_lst : isiD "list" (.nd .lst ds) = some (.bl true) := by simp [isiD, tynD, kit_facts]
@[simp] theorem isi_str_int : isiD "str" (.int i) = some (.bl false) := by simp [isiD, tynD, kit_facts]
@[simp] theorem isi_str_bl : isiD "str" (.bl b) = some (.bl false) := by simp [isiD, tynD, kit_facts]
@[simp] theorem isi_str_str : isiD "str" (.str x) = some (.bl true) := by simp [isiD, tynD, kit_facts]
@[simp] theorem isi_str_non : isiD "str" .non = some (.bl false) := by simp [isiD, tynD, kit_facts]
@[simp] theorem isi_str_tup : isiD "str" (.nd .tup ds) = some (.bl false) := by simp [isiD, tynD, kit_facts]
@[simp] theorem isi_str_lst : isiD "str" (.nd .lst ds) = some (.bl false) := by simp [isiD, tynD, kit_facts]
end
/-- plain data, by its outermost form -/
def plainH : D → Bool
  | .nd .tup _ => true
  | .nd .lst _ => true
  | .nd _ _ => false
  | _ => true
theorem plainH_cases {p : D → Prop} (h1 : p .non) (h2 : ∀ b, p (.bl b)) (h3 : ∀ i, p (.int i)) (h4 : ∀ x, p (.str x)) (h5 : ∀ ds, p (.nd .tup ds)) (h6 : ∀ ds, p (.nd .lst ds)) : ∀ d, plainH d = true → p d
  | .non, _ => h1
  | .bl b, _ => h2 b
  | .int i, _ => h3 i
  | .str x, _ => h4 x
  | .nd .tup ds, _ => h5 ds
  | .nd .lst ds, _ => h6 ds
  | .nd .scr _, h => by simp [plainH] at h
  | .nd (.dK _) _, h => by simp [plainH] at h
  | .nd (.dT _) _, h => by simp [plainH] at h
  | .nd (.obj _) _, h => by simp [plainH] at h
/-! ### numbers, words -/
theorem small {n : Nat} (h : n ≤ 16777216) : n ≤ sizeLine := Nat.le_trans h (by decide)
theorem smallT {n : Nat} (h : n < 16777216) : n < sizeLine := Nat.lt_of_lt_of_le h (by decide)
def nD (n : Nat) : D := .int (n : Int)
@[simp] theorem nD_ap (n : Nat) : nD n = .int (n : Int) := rfl
/-- a tuple, a list of integers -/
def iw (l : List Int) : D := .nd .tup (l.map .int)
def il (l : List Int) : D := .nd .lst (l.map .int)
@[simp] theorem len_iw (l : List Int) : lenD [iw l] = some (.int (l.length : Int)) := by simp [iw]
@[simp] theorem len_il (l : List Int) : lenD [il l] = some (.int (l.length : Int)) := by simp [il]
@[simp] theorem seq_iw (l : List Int) : D.seq (iw l) = some (l.map .int) := rfl
@[simp] theorem seq_il (l : List Int) : D.seq (il l) = some (l.map .int) := rfl
@[simp] theorem tuple_il (l : List Int) : tupleD [il l] = some (iw l) := rfl
@[simp] theorem tuple_iw (l : List Int) : tupleD [iw l] = some (iw l) := rfl
@[simp] theorem rev_iw (l : List Int) : revT (iw l) = some (iw l.reverse) := by simp [iw]
theorem iw_nil : iw [] = .nd .tup [] := rfl
theorem ix_iw {l : List Int} {n : Nat} {x : Int} (h : l[n]? = some x) : ixD (iw l) (.int (n : Int)) = some (.int x) := v_ixT (by rw [List.getElem?_map, h]; rfl)
theorem ix_il {l : List Int} {n : Nat} {x : Int} (h : l[n]? = some x) : ixD (il l) (.int (n : Int)) = some (.int x) := v_ixL (by rw [List.getElem?_map, h]; rfl)
theorem v_rng1 {f : M D} : irng1 f = mbind f fun d => match d with
  | .int n => if inR n = true then mret (rng 0 n) else mstuck
  | _ => mstuck := rfl
theorem inR_nat {n : Nat} (h : n ≤ 1000000000000) : inR (n : Int) = true := by
  simp [inR]; omega
theorem rng0 (n : Nat) : rng 0 (n : Int) = (List.range n).map nD := by
  simp [rng, nD]
theorem v_rangeN {n : Nat} {f : M D} {ρ ρ' : Env} (hf : f ρ = .ok (.int (n : Int), ρ')) (h : n ≤ 1000000000000) : irng1 f ρ = .ok ((List.range n).map nD, ρ') := by
  rw [v_rng1, v_bind, hf]; dsimp only; rw [inR_nat h, if_pos rfl, rng0]; rfl
theorem range_get {n k : Nat} {d : D} (h : ((List.range n).map nD)[k]? = some d) : k < n ∧ d = .int (k : Int) := by
  rw [List.getElem?_map, Option.map_eq_some_iff] at h
  obtain ⟨x, hx, rfl⟩ := h
  obtain ⟨h1, h2⟩ := List.getElem?_eq_some_iff.mp hx
  simp at h1 h2
  subst h2
  exact ⟨h1, rfl⟩
theorem ints_get {l : List Int} {k : Nat} {d : D} (h : (l.map D.int)[k]? = some d) : ∃ x, l[k]? = some x ∧ d = .int x := by
  rw [List.getElem?_map, Option.map_eq_some_iff] at h
  obtain ⟨x, hx, rfl⟩ := h
  exact ⟨x, hx, rfl⟩
theorem enum_get {ds : List D} {k : Nat} {d : D} (h : (enumL ds)[k]? = some d) : ∃ x, ds[k]? = some x ∧ d = .nd .tup [.int (k : Int), x] := by
  unfold enumL at h
  rw [List.getElem?_map, Option.map_eq_some_iff] at h
  obtain ⟨p, hp, rfl⟩ := h
  rw [List.getElem?_zipIdx] at hp
  rw [Option.map_eq_some_iff] at hp
  obtain ⟨x, hx, rfl⟩ := hp
  exact ⟨x, hx, by simp⟩
@[simp] theorem enumL_len (ds : List D) : (enumL ds).length = ds.length := by simp [enumL]
theorem fmod_lt {a L : Int} (h : 0 < L) : 0 ≤ a.fmod L ∧ a.fmod L < L := ⟨Int.fmod_nonneg_of_pos a h, Int.fmod_lt_of_pos a h⟩
theorem abs_nat (i : Int) : (if i < 0 then -i else i) = (i.natAbs : Int) := by split <;> omega
theorem mulS {i j : Int} (h : j.natAbs < 18446744073709551616) : mulOk i j = true := by simp [mulOk, h]
theorem mulS' {i j : Int} (h : i.natAbs < 18446744073709551616) : mulOk i j = true := by simp [mulOk, h]
theorem mulL {i j : Int} {a b : Nat} (h : i.natAbs < 2 ^ a) (h' : j.natAbs < 2 ^ b) (hz : a + b ≤ 1000000) : mulOk i j = true := by
  have key : ∀ {n k : Nat}, 0 < n → n < 2 ^ k → n.log2 < k := fun h0 h => (Nat.log2_lt (by omega)).mpr h
  by_cases hi : i.natAbs < 18446744073709551616
  · exact mulS' hi
  · by_cases hj : j.natAbs < 18446744073709551616
    · exact mulS hj
    · have h1 := key (by omega) h
      have h2 := key (by omega) h'
      simp [mulOk]; omega
theorem notIn_map {α : Type} (ds : List α) (g : α → Bool) : inD true (.bl false) (.nd .lst (ds.map fun d => .bl (g d))) = some (.bl (ds.all g)) := by
  have hf : ∀ ds : List α, flL (ds.map fun d => .bl (g d)) = some ((ds.map g).map V.bl) := by
    intro ds
    induction ds with
    | nil => rfl
    | cons d ds ih => simp [flL, D.fl, ih]
  have key : ∀ bs : List Bool, (!inV (V.bl false) (bs.map V.bl)) = bs.all id := by
    intro bs
    induction bs with
    | nil => rfl
    | cons b bs ih =>
      simp only [List.map_cons, List.all_cons, ← ih]
      cases b <;> rfl
  have e : inD true (.bl false) (.nd .lst (ds.map fun d => .bl (g d))) = some (.bl (!inV (V.bl false) ((ds.map g).map V.bl))) := by
    simp [inD, D.fl, hf]
  rw [e, key]
  simp
theorem all_map {α : Type} (ds : List α) (g : α → Bool) : allD [.nd .lst (ds.map fun d => .bl (g d))] = some (.bl (ds.all g)) := by
  have : ds.map (fun d => D.bl (g d)) = (ds.map g).map D.bl := by rw [List.map_map]; rfl
  simp only [allD, v_lsqL, Option.bind, this, blsD_map, Option.map]
  simp [List.all_map]
theorem any_map {α : Type} (ds : List α) (g : α → Bool) : anyD [.nd .lst (ds.map fun d => .bl (g d))] = some (.bl (ds.any g)) := by
  have : ds.map (fun d => D.bl (g d)) = (ds.map g).map D.bl := by rw [List.map_map]; rfl
  simp only [anyD, v_lsqL, Option.bind, this, blsD_map, Option.map]
  simp [List.any_map]
/-! ### literal places -/
@[simp] theorem v_lst1 {a0 : D} : lstD [a0] = some [a0] := rfl
@[simp] theorem v_lst2 {a0 a1 : D} : lstD [a0, a1] = some [a0, a1] := rfl
@[simp] theorem v_lst3 {a0 a1 a2 : D} : lstD [a0, a1, a2] = some [a0, a1, a2] := rfl
@[simp] theorem v_lst4 {a0 a1 a2 a3 : D} : lstD [a0, a1, a2, a3] = some [a0, a1, a2, a3] := rfl
@[simp] theorem v_lst5 {a0 a1 a2 a3 a4 : D} : lstD [a0, a1, a2, a3, a4] = some [a0, a1, a2, a3, a4] := rfl
@[simp] theorem v_lst6 {a0 a1 a2 a3 a4 a5 : D} : lstD [a0, a1, a2, a3, a4, a5] = some [a0, a1, a2, a3, a4, a5] := rfl
@[simp] theorem v_lst7 {a0 a1 a2 a3 a4 a5 a6 : D} : lstD [a0, a1, a2, a3, a4, a5, a6] = some [a0, a1, a2, a3, a4, a5, a6] := rfl
@[simp] theorem v_lst8 {a0 a1 a2 a3 a4 a5 a6 a7 : D} : lstD [a0, a1, a2, a3, a4, a5, a6, a7] = some [a0, a1, a2, a3, a4, a5, a6, a7] := rfl
@[simp] theorem v_lst9 {a0 a1 a2 a3 a4 a5 a6 a7 a8 : D} : lstD [a0, a1, a2, a3, a4, a5, a6, a7, a8] = some [a0, a1, a2, a3, a4, a5, a6, a7, a8] := rfl
@[simp] theorem v_lst10 {a0 a1 a2 a3 a4 a5 a6 a7 a8 a9 : D} : lstD [a0, a1, a2, a3, a4, a5, a6, a7, a8, a9] = some [a0, a1, a2, a3, a4, a5, a6, a7, a8, a9] := rfl
@[simp] theorem v_lst11 {a0 a1 a2 a3 a4 a5 a6 a7 a8 a9 a10 : D} : lstD [a0, a1, a2, a3, a4, a5, a6, a7, a8, a9, a10] = some [a0, a1, a2, a3, a4, a5, a6, a7, a8, a9, a10] := rfl
@[simp] theorem v_lst12 {a0 a1 a2 a3 a4 a5 a6 a7 a8 a9 a10 a11 : D} : lstD [a0, a1, a2, a3, a4, a5, a6, a7, a8, a9, a10, a11] = some [a0, a1, a2, a3, a4, a5, a6, a7, a8, a9, a10, a11] := rfl
@[simp] theorem v_lst13 {a0 a1 a2 a3 a4 a5 a6 a7 a8 a9 a10 a11 a12 : D} : lstD [a0, a1, a2, a3, a4, a5, a6, a7, a8, a9, a10, a11, a12] = some [a0, a1, a2, a3, a4, a5, a6, a7, a8, a9, a10, a11, a12] := rfl
@[simp] theorem v_lst14 {a0 a1 a2 a3 a4 a5 a6 a7 a8 a9 a10 a11 a12 a13 : D} : lstD [a0, a1, a2, a3, a4, a5, a6, a7, a8, a9, a10, a11, a12, a13] = some [a0, a1, a2, a3, a4, a5, a6, a7, a8, a9, a10, a11, a12, a13] := rfl
@[simp] theorem v_lst15 {a0 a1 a2 a3 a4 a5 a6 a7 a8 a9 a10 a11 a12 a13 a14 : D} : lstD [a0, a1, a2, a3, a4, a5, a6, a7, a8, a9, a10, a11, a12, a13, a14] = some [a0, a1, a2, a3, a4, a5, a6, a7, a8, a9, a10, a11, a12, a13, a14] := rfl
@[simp] theorem v_lst16 {a0 a1 a2 a3 a4 a5 a6 a7 a8 a9 a10 a11 a12 a13 a14 a15 : D} : lstD [a0, a1, a2, a3, a4, a5, a6, a7, a8, a9, a10, a11, a12, a13, a14, a15] = some [a0, a1, a2, a3, a4, a5, a6, a7, a8, a9, a10, a11, a12, a13, a14, a15] := rfl
@[simp] theorem v_lst17 {a0 a1 a2 a3 a4 a5 a6 a7 a8 a9 a10 a11 a12 a13 a14 a15 a16 : D} : lstD [a0, a1, a2, a3, a4, a5, a6, a7, a8, a9, a10, a11, a12, a13, a14, a15, a16] = some [a0, a1, a2, a3, a4, a5, a6, a7, a8, a9, a10, a11, a12, a13, a14, a15, a16] := rfl
@[simp] theorem v_lst18 {a0 a1 a2 a3 a4 a5 a6 a7 a8 a9 a10 a11 a12 a13 a14 a15 a16 a17 : D} : lstD [a0, a1, a2, a3, a4, a5, a6, a7, a8, a9, a10, a11, a12, a13, a14, a15, a16, a17] = some [a0, a1, a2, a3, a4, a5, a6, a7, a8, a9, a10, a11, a12, a13, a14, a15, a16, a17] := rfl
@[simp] theorem v_lst19 {a0 a1 a2 a3 a4 a5 a6 a7 a8 a9 a10 a11 a12 a13 a14 a15 a16 a17 a18 : D} : lstD [a0, a1, a2, a3, a4, a5, a6, a7, a8, a9, a10, a11, a12, a13, a14, a15, a16, a17, a18] = some [a0, a1, a2, a3, a4, a5, a6, a7, a8, a9, a10, a11, a12, a13, a14, a15, a16, a17, a18] := rfl
@[simp] theorem v_lst20 {a0 a1 a2 a3 a4 a5 a6 a7 a8 a9 a10 a11 a12 a13 a14 a15 a16 a17 a18 a19 : D} : lstD [a0, a1, a2, a3, a4, a5, a6, a7, a8, a9, a10, a11, a12, a13, a14, a15, a16, a17, a18, a19] = some [a0, a1, a2, a3, a4, a5, a6, a7, a8, a9, a10, a11, a12, a13, a14, a15, a16, a17, a18, a19] := rfl
@[simp] theorem v_lst21 {a0 a1 a2 a3 a4 a5 a6 a7 a8 a9 a10 a11 a12 a13 a14 a15 a16 a17 a18 a19 a20 : D} : lstD [a0, a1, a2, a3, a4, a5, a6, a7, a8, a9, a10, a11, a12, a13, a14, a15, a16, a17, a18, a19, a20] = some [a0, a1, a2, a3, a4, a5, a6, a7, a8, a9, a10, a11, a12, a13, a14, a15, a16, a17, a18, a19, a20] := rfl
@[simp] theorem v_lst22 {a0 a1 a2 a3 a4 a5 a6 a7 a8 a9 a10 a11 a12 a13 a14 a15 a16 a17 a18 a19 a20 a21 : D} : lstD [a0, a1, a2, a3, a4, a5, a6, a7, a8, a9, a10, a11, a12, a13, a14, a15, a16, a17, a18, a19, a20, a21] = some [a0, a1, a2, a3, a4, a5, a6, a7, a8, a9, a10, a11, a12, a13, a14, a15, a16, a17, a18, a19, a20, a21] := rfl
@[simp] theorem v_lst23 {a0 a1 a2 a3 a4 a5 a6 a7 a8 a9 a10 a11 a12 a13 a14 a15 a16 a17 a18 a19 a20 a21 a22 : D} : lstD [a0, a1, a2, a3, a4, a5, a6, a7, a8, a9, a10, a11, a12, a13, a14, a15, a16, a17, a18, a19, a20, a21, a22] = some [a0, a1, a2, a3, a4, a5, a6, a7, a8, a9, a10, a11, a12, a13, a14, a15, a16, a17, a18, a19, a20, a21, a22] := rfl
@[simp] theorem v_lst24 {a0 a1 a2 a3 a4 a5 a6 a7 a8 a9 a10 a11 a12 a13 a14 a15 a16 a17 a18 a19 a20 a21 a22 a23 : D} : lstD [a0, a1, a2, a3, a4, a5, a6, a7, a8, a9, a10, a11, a12, a13, a14, a15, a16, a17, a18, a19, a20, a21, a22, a23] = some [a0, a1, a2, a3, a4, a5, a6, a7, a8, a9, a10, a11, a12, a13, a14, a15, a16, a17, a18, a19, a20, a21, a22, a23] := rfl
@[simp] theorem v_lst25 {a0 a1 a2 a3 a4 a5 a6 a7 a8 a9 a10 a11 a12 a13 a14 a15 a16 a17 a18 a19 a20 a21 a22 a23 a24 : D} : lstD [a0, a1, a2, a3, a4, a5, a6, a7, a8, a9, a10, a11, a12, a13, a14, a15, a16, a17, a18, a19, a20, a21, a22, a23, a24] = some [a0, a1, a2, a3, a4, a5, a6, a7, a8, a9, a10, a11, a12, a13, a14, a15, a16, a17, a18, a19, a20, a21, a22, a23, a24] := rfl
@[simp] theorem v_lst26 {a0 a1 a2 a3 a4 a5 a6 a7 a8 a9 a10 a11 a12 a13 a14 a15 a16 a17 a18 a19 a20 a21 a22 a23 a24 a25 : D} : lstD [a0, a1, a2, a3, a4, a5, a6, a7, a8, a9, a10, a11, a12, a13, a14, a15, a16, a17, a18, a19, a20, a21, a22, a23, a24, a25] = some [a0, a1, a2, a3, a4, a5, a6, a7, a8, a9, a10, a11, a12, a13, a14, a15, a16, a17, a18, a19, a20, a21, a22, a23, a24, a25] := rfl
@[simp] theorem v_lst27 {a0 a1 a2 a3 a4 a5 a6 a7 a8 a9 a10 a11 a12 a13 a14 a15 a16 a17 a18 a19 a20 a21 a22 a23 a24 a25 a26 : D} : lstD [a0, a1, a2, a3, a4, a5, a6, a7, a8, a9, a10, a11, a12, a13, a14, a15, a16, a17, a18, a19, a20, a21, a22, a23, a24, a25, a26] = some [a0, a1, a2, a3, a4, a5, a6, a7, a8, a9, a10, a11, a12, a13, a14, a15, a16, a17, a18, a19, a20, a21, a22, a23, a24, a25, a26] := rfl
@[simp] theorem v_lst28 {a0 a1 a2 a3 a4 a5 a6 a7 a8 a9 a10 a11 a12 a13 a14 a15 a16 a17 a18 a19 a20 a21 a22 a23 a24 a25 a26 a27 : D} : lstD [a0, a1, a2, a3, a4, a5, a6, a7, a8, a9, a10, a11, a12, a13, a14, a15, a16, a17, a18, a19, a20, a21, a22, a23, a24, a25, a26, a27] = some [a0, a1, a2, a3, a4, a5, a6, a7, a8, a9, a10, a11, a12, a13, a14, a15, a16, a17, a18, a19, a20, a21, a22, a23, a24, a25, a26, a27] := rfl
@[simp] theorem v_lst29 {a0 a1 a2 a3 a4 a5 a6 a7 a8 a9 a10 a11 a12 a13 a14 a15 a16 a17 a18 a19 a20 a21 a22 a23 a24 a25 a26 a27 a28 : D} : lstD [a0, a1, a2, a3, a4, a5, a6, a7, a8, a9, a10, a11, a12, a13, a14, a15, a16, a17, a18, a19, a20, a21, a22, a23, a24, a25, a26, a27, a28] = some [a0, a1, a2, a3, a4, a5, a6, a7, a8, a9, a10, a11, a12, a13, a14, a15, a16, a17, a18, a19, a20, a21, a22, a23, a24, a25, a26, a27, a28] := rfl
@[simp] theorem v_lst30 {a0 a1 a2 a3 a4 a5 a6 a7 a8 a9 a10 a11 a12 a13 a14 a15 a16 a17 a18 a19 a20 a21 a22 a23 a24 a25 a26 a27 a28 a29 : D} : lstD [a0, a1, a2, a3, a4, a5, a6, a7, a8, a9, a10, a11, a12, a13, a14, a15, a16, a17, a18, a19, a20, a21, a22, a23, a24, a25, a26, a27, a28, a29] = some [a0, a1, a2, a3, a4, a5, a6, a7, a8, a9, a10, a11, a12, a13, a14, a15, a16, a17, a18, a19, a20, a21, a22, a23, a24, a25, a26, a27, a28, a29] := rfl
@[simp] theorem v_tup4 {a0 a1 a2 a3 : D} : tupD [a0, a1, a2, a3] = some (.nd .tup [a0, a1, a2, a3]) := rfl
@[simp] theorem v_tup5 {a0 a1 a2 a3 a4 : D} : tupD [a0, a1, a2, a3, a4] = some (.nd .tup [a0, a1, a2, a3, a4]) := rfl
@[simp] theorem v_tup6 {a0 a1 a2 a3 a4 a5 : D} : tupD [a0, a1, a2, a3, a4, a5] = some (.nd .tup [a0, a1, a2, a3, a4, a5]) := rfl
@[simp] theorem v_tup7 {a0 a1 a2 a3 a4 a5 a6 : D} : tupD [a0, a1, a2, a3, a4, a5, a6] = some (.nd .tup [a0, a1, a2, a3, a4, a5, a6]) := rfl
@[simp] theorem v_tup8 {a0 a1 a2 a3 a4 a5 a6 a7 : D} : tupD [a0, a1, a2, a3, a4, a5, a6, a7] = some (.nd .tup [a0, a1, a2, a3, a4, a5, a6, a7]) := rfl
@[simp] theorem v_tup9 {a0 a1 a2 a3 a4 a5 a6 a7 a8 : D} : tupD [a0, a1, a2, a3, a4, a5, a6, a7, a8] = some (.nd .tup [a0, a1, a2, a3, a4, a5, a6, a7, a8]) := rfl
@[simp] theorem v_tup10 {a0 a1 a2 a3 a4 a5 a6 a7 a8 a9 : D} : tupD [a0, a1, a2, a3, a4, a5, a6, a7, a8, a9] = some (.nd .tup [a0, a1, a2, a3, a4, a5, a6, a7, a8, a9]) := rfl
@[simp] theorem ixN1_0 : L2.ixN 1 0 = some 0 := rfl
@[simp] theorem atI1_0 {α : Type} {a0 : α} : L2.atI [a0] 0 = some a0 := rfl
@[simp] theorem ixT1_0 {a0 : D} : ixD (.nd .tup [a0]) (.int 0) = some a0 := rfl
@[simp] theorem ixL1_0 {a0 : D} : ixD (.nd .lst [a0]) (.int 0) = some a0 := rfl
@[simp] theorem ixN2_0 : L2.ixN 2 0 = some 0 := rfl
@[simp] theorem atI2_0 {α : Type} {a0 a1 : α} : L2.atI [a0, a1] 0 = some a0 := rfl
@[simp] theorem ixT2_0 {a0 a1 : D} : ixD (.nd .tup [a0, a1]) (.int 0) = some a0 := rfl
@[simp] theorem ixL2_0 {a0 a1 : D} : ixD (.nd .lst [a0, a1]) (.int 0) = some a0 := rfl
@[simp] theorem ixN2_1 : L2.ixN 2 1 = some 1 := rfl
@[simp] theorem atI2_1 {α : Type} {a0 a1 : α} : L2.atI [a0, a1] 1 = some a1 := rfl
@[simp] theorem ixT2_1 {a0 a1 : D} : ixD (.nd .tup [a0, a1]) (.int 1) = some a1 := rfl
@[simp] theorem ixL2_1 {a0 a1 : D} : ixD (.nd .lst [a0, a1]) (.int 1) = some a1 := rfl
@[simp] theorem ixN3_0 : L2.ixN 3 0 = some 0 := rfl
@[simp] theorem atI3_0 {α : Type} {a0 a1 a2 : α} : L2.atI [a0, a1, a2] 0 = some a0 := rfl
@[simp] theorem ixT3_0 {a0 a1 a2 : D} : ixD (.nd .tup [a0, a1, a2]) (.int 0) = some a0 := rfl
@[simp] theorem ixL3_0 {a0 a1 a2 : D} : ixD (.nd .lst [a0, a1, a2]) (.int 0) = some a0 := rfl
@[simp] theorem ixN3_1 : L2.ixN 3 1 = some 1 := rfl
@[simp] theorem atI3_1 {α : Type} {a0 a1 a2 : α} : L2.atI [a0, a1, a2] 1 = some a1 := rfl
@[simp] theorem ixT3_1 {a0 a1 a2 : D} : ixD (.nd .tup [a0, a1, a2]) (.int 1) = some a1 := rfl
@[simp] theorem ixL3_1 {a0 a1 a2 : D} : ixD (.nd .lst [a0, a1, a2]) (.int 1) = some a1 := rfl
@[simp] theorem ixN3_2 : L2.ixN 3 2 = some 2 := rfl
@[simp] theorem atI3_2 {α : Type} {a0 a1 a2 : α} : L2.atI [a0, a1, a2] 2 = some a2 := rfl
@[simp] theorem ixT3_2 {a0 a1 a2 : D} : ixD (.nd .tup [a0, a1, a2]) (.int 2) = some a2 := rfl
@[simp] theorem ixL3_2 {a0 a1 a2 : D} : ixD (.nd .lst [a0, a1, a2]) (.int 2) = some a2 := rfl
@[simp] theorem ixN4_0 : L2.ixN 4 0 = some 0 := rfl
@[simp] theorem atI4_0 {α : Type} {a0 a1 a2 a3 : α} : L2.atI [a0, a1, a2, a3] 0 = some a0 := rfl
@[simp] theorem ixT4_0 {a0 a1 a2 a3 : D} : ixD (.nd .tup [a0, a1, a2, a3]) (.int 0) = some a0 := rfl
@[simp] theorem ixL4_0 {a0 a1 a2 a3 : D} : ixD (.nd .lst [a0, a1, a2, a3]) (.int 0) = some a0 := rfl
@[simp] theorem ixN4_1 : L2.ixN 4 1 = some 1 := rfl
@[simp] theorem atI4_1 {α : Type} {a0 a1 a2 a3 : α} : L2.atI [a0, a1, a2, a3] 1 = some a1 := rfl
@[simp] theorem ixT4_1 {a0 a1 a2 a3 : D} : ixD (.nd .tup [a0, a1, a2, a3]) (.int 1) = some a1 := rfl
@[simp] theorem ixL4_1 {a0 a1 a2 a3 : D} : ixD (.nd .lst [a0, a1, a2, a3]) (.int 1) = some a1 := rfl
@[simp] theorem ixN4_2 : L2.ixN 4 2 = some 2 := rfl
@[simp] theorem atI4_2 {α : Type} {a0 a1 a2 a3 : α} : L2.atI [a0, a1, a2, a3] 2 = some a2 := rfl
@[simp] theorem ixT4_2 {a0 a1 a2 a3 : D} : ixD (.nd .tup [a0, a1, a2, a3]) (.int 2) = some a2 := rfl
@[simp] theorem ixL4_2 {a0 a1 a2 a3 : D} : ixD (.nd .lst [a0, a1, a2, a3]) (.int 2) = some a2 := rfl
@[simp] theorem ixN4_3 : L2.ixN 4 3 = some 3 := rfl
@[simp] theorem atI4_3 {α : Type} {a0 a1 a2 a3 : α} : L2.atI [a0, a1, a2, a3] 3 = some a3 := rfl
@[simp] theorem ixT4_3 {a0 a1 a2 a3 : D} : ixD (.nd .tup [a0, a1, a2, a3]) (.int 3) = some a3 := rfl
@[simp] theorem ixL4_3 {a0 a1 a2 a3 : D} : ixD (.nd .lst [a0, a1, a2, a3]) (.int 3) = some a3 := rfl
@[simp] theorem ixN5_0 : L2.ixN 5 0 = some 0 := rfl
@[simp] theorem atI5_0 {α : Type} {a0 a1 a2 a3 a4 : α} : L2.atI [a0, a1, a2, a3, a4] 0 = some a0 := rfl
@[simp] theorem ixT5_0 {a0 a1 a2 a3 a4 : D} : ixD (.nd .tup [a0, a1, a2, a3, a4]) (.int 0) = some a0 := rfl
@[simp] theorem ixL5_0 {a0 a1 a2 a3 a4 : D} : ixD (.nd .lst [a0, a1, a2, a3, a4]) (.int 0) = some a0 := rfl
@[simp] theorem ixN5_1 : L2.ixN 5 1 = some 1 := rfl
@[simp] theorem atI5_1 {α : Type} {a0 a1 a2 a3 a4 : α} : L2.atI [a0, a1, a2, a3, a4] 1 = some a1 := rfl
@[simp] theorem ixT5_1 {a0 a1 a2 a3 a4 : D} : ixD (.nd .tup [a0, a1, a2, a3, a4]) (.int 1) = some a1 := rfl
@[simp] theorem ixL5_1 {a0 a1 a2 a3 a4 : D} : ixD (.nd .lst [a0, a1, a2, a3, a4]) (.int 1) = some a1 := rfl
@[simp] theorem ixN5_2 : L2.ixN 5 2 = some 2 := rfl
@[simp] theorem atI5_2 {α : Type} {a0 a1 a2 a3 a4 : α} : L2.atI [a0, a1, a2, a3, a4] 2 = some a2 := rfl
@[simp] theorem ixT5_2 {a0 a1 a2 a3 a4 : D} : ixD (.nd .tup [a0, a1, a2, a3, a4]) (.int 2) = some a2 := rfl
@[simp] theorem ixL5_2 {a0 a1 a2 a3 a4 : D} : ixD (.nd .lst [a0, a1, a2, a3, a4]) (.int 2) = some a2 := rfl
@[simp] theorem ixN5_3 : L2.ixN 5 3 = some 3 := rfl
@[simp] theorem atI5_3 {α : Type} {a0 a1 a2 a3 a4 : α} : L2.atI [a0, a1, a2, a3, a4] 3 = some a3 := rfl
@[simp] theorem ixT5_3 {a0 a1 a2 a3 a4 : D} : ixD (.nd .tup [a0, a1, a2, a3, a4]) (.int 3) = some a3 := rfl
@[simp] theorem ixL5_3 {a0 a1 a2 a3 a4 : D} : ixD (.nd .lst [a0, a1, a2, a3, a4]) (.int 3) = some a3 := rfl
@[simp] theorem ixN5_4 : L2.ixN 5 4 = some 4 := rfl
@[simp] theorem atI5_4 {α : Type} {a0 a1 a2 a3 a4 : α} : L2.atI [a0, a1, a2, a3, a4] 4 = some a4 := rfl
@[simp] theorem ixT5_4 {a0 a1 a2 a3 a4 : D} : ixD (.nd .tup [a0, a1, a2, a3, a4]) (.int 4) = some a4 := rfl
@[simp] theorem ixL5_4 {a0 a1 a2 a3 a4 : D} : ixD (.nd .lst [a0, a1, a2, a3, a4]) (.int 4) = some a4 := rfl
@[simp] theorem ixN6_0 : L2.ixN 6 0 = some 0 := rfl
@[simp] theorem atI6_0 {α : Type} {a0 a1 a2 a3 a4 a5 : α} : L2.atI [a0, a1, a2, a3, a4, a5] 0 = some a0 := rfl
@[simp] theorem ixT6_0 {a0 a1 a2 a3 a4 a5 : D} : ixD (.nd .tup [a0, a1, a2, a3, a4, a5]) (.int 0) = some a0 := rfl
@[simp] theorem ixL6_0 {a0 a1 a2 a3 a4 a5 : D} : ixD (.nd .lst [a0, a1, a2, a3, a4, a5]) (.int 0) = some a0 := rfl
@[simp] theorem ixN6_1 : L2.ixN 6 1 = some 1 := rfl
@[simp] theorem atI6_1 {α : Type} {a0 a1 a2 a3 a4 a5 : α} : L2.atI [a0, a1, a2, a3, a4, a5] 1 = some a1 := rfl
@[simp] theorem ixT6_1 {a0 a1 a2 a3 a4 a5 : D} : ixD (.nd .tup [a0, a1, a2, a3, a4, a5]) (.int 1) = some a1 := rfl
@[simp] theorem ixL6_1 {a0 a1 a2 a3 a4 a5 : D} : ixD (.nd .lst [a0, a1, a2, a3, a4, a5]) (.int 1) = some a1 := rfl
@[simp] theorem ixN6_2 : L2.ixN 6 2 = some 2 := rfl
@[simp] theorem atI6_2 {α : Type} {a0 a1 a2 a3 a4 a5 : α} : L2.atI [a0, a1, a2, a3, a4, a5] 2 = some a2 := rfl
@[simp] theorem ixT6_2 {a0 a1 a2 a3 a4 a5 : D} : ixD (.nd .tup [a0, a1, a2, a3, a4, a5]) (.int 2) = some a2 := rfl
@[simp] theorem ixL6_2 {a0 a1 a2 a3 a4 a5 : D} : ixD (.nd .lst [a0, a1, a2, a3, a4, a5]) (.int 2) = some a2 := rfl
@[simp] theorem ixN6_3 : L2.ixN 6 3 = some 3 := rfl
@[simp] theorem atI6_3 {α : Type} {a0 a1 a2 a3 a4 a5 : α} : L2.atI [a0, a1, a2, a3, a4, a5] 3 = some a3 := rfl
@[simp] theorem ixT6_3 {a0 a1 a2 a3 a4 a5 : D} : ixD (.nd .tup [a0, a1, a2, a3, a4, a5]) (.int 3) = some a3 := rfl
@[simp] theorem ixL6_3 {a0 a1 a2 a3 a4 a5 : D} : ixD (.nd .lst [a0, a1, a2, a3, a4, a5]) (.int 3) = some a3 := rfl
@[simp] theorem ixN6_4 : L2.ixN 6 4 = some 4 := rfl
@[simp] theorem atI6_4 {α : Type} {a0 a1 a2 a3 a4 a5 : α} : L2.atI [a0, a1, a2, a3, a4, a5] 4 = some a4 := rfl
@[simp] theorem ixT6_4 {a0 a1 a2 a3 a4 a5 : D} : ixD (.nd .tup [a0, a1, a2, a3, a4, a5]) (.int 4) = some a4 := rfl
@[simp] theorem ixL6_4 {a0 a1 a2 a3 a4 a5 : D} : ixD (.nd .lst [a0, a1, a2, a3, a4, a5]) (.int 4) = some a4 := rfl
@[simp] theorem ixN6_5 : L2.ixN 6 5 = some 5 := rfl
@[simp] theorem atI6_5 {α : Type} {a0 a1 a2 a3 a4 a5 : α} : L2.atI [a0, a1, a2, a3, a4, a5] 5 = some a5 := rfl
@[simp] theorem ixT6_5 {a0 a1 a2 a3 a4 a5 : D} : ixD (.nd .tup [a0, a1, a2, a3, a4, a5]) (.int 5) = some a5 := rfl
@[simp] theorem ixL6_5 {a0 a1 a2 a3 a4 a5 : D} : ixD (.nd .lst [a0, a1, a2, a3, a4, a5]) (.int 5) = some a5 := rfl
/-! ### slices -/
theorem cutD_lo {ds : List D} {n : Nat} : cutD ds none (some (n : Int)) = ds.take n := by
  unfold cutD
  by_cases h : n ≤ ds.length
  · rw [HT.sIx_none, HT.sIx_nat, Nat.min_eq_left h]
    simp
  · rw [HT.sIx_none, HT.sIx_nat, Nat.min_eq_right (by omega), List.take_of_length_le (by simp), List.take_of_length_le (by omega)]
    simp
theorem cutD_hi {ds : List D} {n : Nat} : cutD ds (some (n : Int)) none = ds.drop n := by
  unfold cutD
  by_cases h : n ≤ ds.length
  · rw [HT.sIx_none, HT.sIx_nat, Nat.min_eq_left h]
    rw [List.take_of_length_le (by simp)]
  · rw [HT.sIx_none, HT.sIx_nat, Nat.min_eq_right (by omega), List.take_of_length_le (by simp), List.drop_of_length_le (by omega), List.drop_of_length_le (by omega)]
/-! ### equality -/
open Classical in
/-- are two data the same -/
noncomputable def dEq (d e : D) : Bool := decide (d = e)
theorem dEq_iff {d e : D} : dEq d e = true ↔ d = e := by simp [dEq]
@[simp] theorem dEq_self {d : D} : dEq d d = true := by simp [dEq]
theorem dEq_ne {d e : D} (h : d ≠ e) : dEq d e = false := by simp [dEq, h]
/-- data without bools, texts of signs, at most so deep -/
inductive Nb : Nat → D → Prop
  | non {k : Nat} : Nb k .non
  | int {k : Nat} (i : Int) : Nb k (.int i)
  | str {k : Nat} {x : Str} (h : PyData.strOk x = true) : Nb k (.str x)
  | tup {k : Nat} {ds : List D} (h : ∀ d ∈ ds, Nb k d) : Nb (k + 1) (.nd .tup ds)
  | lst {k : Nat} {ds : List D} (h : ∀ d ∈ ds, Nb k d) : Nb (k + 1) (.nd .lst ds)
theorem Nb.succ {k : Nat} {d : D} (h : Nb k d) : Nb (k + 1) d := by
  induction h with
  | non => exact .non
  | int i => exact .int i
  | str h => exact .str h
  | tup h ih => exact .tup ih
  | lst h ih => exact .lst ih
theorem Nb.mono {k m : Nat} {d : D} (h : Nb k d) (hm : k ≤ m) : Nb m d := by
  induction hm with
  | refl => exact h
  | step _ ih => exact ih.succ
theorem Nb.py {k : Nat} {d : D} (h : Nb k d) : ∃ p, d.py = some p ∧ p.canLay0 = true ∧ p.depth ≤ k := by
  have L : ∀ {k : Nat} {ds : List D}, (∀ d ∈ ds, ∃ p, d.py = some p ∧ p.canLay0 = true ∧ p.depth ≤ k) → ∃ ps, pyL ds = some ps ∧ PyData.canLayAll0 ps = true ∧ PyData.depthAll ps ≤ k := by
    intro k ds
    induction ds with
    | nil => exact fun _ => ⟨[], by simp [pyL], by simp [PyData.canLayAll0], by simp [PyData.depthAll]⟩
    | cons d ds ih =>
      intro h
      obtain ⟨p, p1, p2, p3⟩ := h d (by simp)
      obtain ⟨ps, q1, q2, q3⟩ := ih fun e he => h e (by simp [he])
      exact ⟨p :: ps, by simp [pyL, p1, q1], by simp [PyData.canLayAll0, p2, q2], by simp [PyData.depthAll]; omega⟩
  induction h with
  | non => exact ⟨.none, by simp [D.py], by simp [PyData.canLay0], by simp [PyData.depth]⟩
  | int i => exact ⟨.int i, by simp [D.py], by simp [PyData.canLay0], by simp [PyData.depth]⟩
  | @str k x h => exact ⟨.str x, by simp [D.py], by simp [PyData.canLay0, h], by simp [PyData.depth]⟩
  | tup h ih =>
    obtain ⟨ps, q1, q2, q3⟩ := L ih
    exact ⟨.tuple ps, by simp [D.py, q1], by simp [PyData.canLay0, q2], by simp [PyData.depth]; omega⟩
  | lst h ih =>
    obtain ⟨ps, q1, q2, q3⟩ := L ih
    exact ⟨.list ps, by simp [D.py, q1], by simp [PyData.canLay0, q2], by simp [PyData.depth]; omega⟩
theorem Nb.eqv {k : Nat} {d : D} (h : Nb k d) : ∀ {m : Nat} {e : D} {p q : PyData}, Nb m e → d.py = some p → e.py = some q → (PyData.eqv p q = true ↔ d = e) := by
  have L : ∀ {k : Nat} {ds : List D}, (∀ d ∈ ds, ∀ {m : Nat} {e : D} {p q : PyData}, Nb m e → d.py = some p → e.py = some q → (PyData.eqv p q = true ↔ d = e)) → ∀ {m : Nat} {es : List D} {ps qs : List PyData}, (∀ e ∈ es, Nb m e) → pyL ds = some ps → pyL es = some qs → (PyData.eqvAll ps qs = true ↔ ds = es) := by
    intro k ds
    induction ds with
    | nil =>
      intro _ m es ps qs he hp hq
      simp only [pyL, Option.some.injEq] at hp
      subst hp
      cases es with
      | nil => simp only [pyL, Option.some.injEq] at hq; subst hq; simp [PyData.eqvAll]
      | cons e es =>
        simp only [pyL] at hq
        split at hq
        · cases hq; simp [PyData.eqvAll]
        · cases hq
    | cons d ds ih =>
      intro h m es ps qs he hp hq
      simp only [pyL] at hp
      split at hp
      · rename_i p ps' hp1 hp2
        cases hp
        cases es with
        | nil => simp only [pyL, Option.some.injEq] at hq; subst hq; simp [PyData.eqvAll]
        | cons e es =>
          simp only [pyL] at hq
          split at hq
          · rename_i q qs' hq1 hq2
            cases hq
            simp only [PyData.eqvAll, Bool.and_eq_true, List.cons.injEq]
            rw [h d (by simp) (he e (by simp)) hp1 hq1, ih (fun x hx => h x (by simp [hx])) (fun x hx => he x (by simp [hx])) hp2 hq2]
          · cases hq
      · cases hp
  induction h with
  | non =>
    intro m e p q he hp hq
    cases he <;> simp [D.py] at hp hq <;> subst hp
    all_goals try (subst hq; simp [PyData.eqv])
    all_goals (obtain ⟨a, _, rfl⟩ := hq; simp [PyData.eqv])
  | int i =>
    intro m e p q he hp hq
    cases he <;> simp [D.py] at hp hq <;> subst hp
    all_goals try (subst hq; simp [PyData.eqv])
    all_goals (obtain ⟨a, _, rfl⟩ := hq; simp [PyData.eqv])
  | str h =>
    intro m e p q he hp hq
    cases he <;> simp [D.py] at hp hq <;> subst hp
    all_goals try (subst hq; simp [PyData.eqv])
    all_goals (obtain ⟨a, _, rfl⟩ := hq; simp [PyData.eqv])
  | tup h ih =>
    intro m e p q he hp hq
    simp [D.py] at hp
    obtain ⟨ps, hp, rfl⟩ := hp
    cases he <;> simp [D.py] at hq
    all_goals try (subst hq; simp [PyData.eqv])
    · obtain ⟨qs, hq, rfl⟩ := hq
      rename_i he
      simp only [PyData.eqv, L (k := 0) (fun d hd => ih d hd) he hp hq]
      simp
    · obtain ⟨qs, hq, rfl⟩ := hq
      simp [PyData.eqv]
  | lst h ih =>
    intro m e p q he hp hq
    simp [D.py] at hp
    obtain ⟨ps, hp, rfl⟩ := hp
    cases he <;> simp [D.py] at hq
    all_goals try (subst hq; simp [PyData.eqv])
    · obtain ⟨qs, hq, rfl⟩ := hq
      simp [PyData.eqv]
    · obtain ⟨qs, hq, rfl⟩ := hq
      rename_i he
      simp only [PyData.eqv, L (k := 0) (fun d hd => ih d hd) he hp hq]
      simp
theorem eqD_nb {k m : Nat} {d e : D} (h : Nb k d) (h' : Nb m e) (hk : k ≤ 64) (hm : m ≤ 64) : eqD d e = some (dEq d e) := by
  obtain ⟨p, p1, p2, p3⟩ := h.py
  obtain ⟨q, q1, q2, q3⟩ := h'.py
  have hs : SeqAt.shaped p = true ∧ SeqAt.shaped q = true := by
    simp [SeqAt.shaped, p2, q2]; omega
  have := h.eqv h' p1 q1
  unfold eqD
  rw [p1, q1]
  simp only [hs.1, hs.2, Bool.and_self, if_true]
  congr 1
  cases hb : PyData.eqv p q with
  | true => rw [dEq_iff.mpr (this.mp hb)]
  | false => rw [dEq_ne fun z => by rw [this.mpr z] at hb; cases hb]
theorem eq_nb {k m : Nat} {d e : D} (h : Nb k d) (h' : Nb m e) (hk : k ≤ 64 := by decide) (hm : m ≤ 64 := by decide) : eqDv d e = some (.bl (dEq d e)) := by
  unfold eqDv; rw [eqD_nb h h' hk hm]; rfl
theorem ne_nb {k m : Nat} {d e : D} (h : Nb k d) (h' : Nb m e) (hk : k ≤ 64 := by decide) (hm : m ≤ 64 := by decide) : neDv d e = some (.bl (!dEq d e)) := by
  unfold neDv; rw [eqD_nb h h' hk hm]; rfl
theorem Nb.iw (l : List Int) : Nb 1 (iw l) := .tup fun d hd => by obtain ⟨i, _, rfl⟩ := List.mem_map.mp hd; exact .int i
theorem Nb.il (l : List Int) : Nb 1 (il l) := .lst fun d hd => by obtain ⟨i, _, rfl⟩ := List.mem_map.mp hd; exact .int i
theorem iw_inj {a b : List Int} : iw a = iw b ↔ a = b := by
  constructor
  · intro h
    have h1 : a.map D.int = b.map D.int := by injection h
    exact (List.map_inj_right (fun x y e => by injection e)).mp h1
  · rintro rfl; rfl
/-! ### texts -/
theorem sok_of (s : String) : PyData.strOk (Str.ofString s) = true := by
  unfold PyData.strOk
  rw [Array.all_eq_true_iff_forall_mem]
  intro c hc
  have h1 : c ∈ (Str.ofString s).cps.toList := by simpa using hc
  rw [PyProof.Rows.signs_ofString] at h1
  obtain ⟨ch, _, rfl⟩ := List.mem_map.mp h1
  have := ch.valid
  have h2 : ch.toNat < 1114112 := by
    rcases this with h | ⟨_, h⟩
    · show ch.val.toNat < _; omega
    · show ch.val.toNat < _; exact h
  simpa using h2
theorem sok_app {a b : Str} (ha : PyData.strOk a = true) (hb : PyData.strOk b = true) : PyData.strOk (a ++ b) = true := by
  unfold PyData.strOk at *
  rw [Str.cps_append, Array.all_append, ha, hb]; rfl
theorem sok_join {s : Str} (hs : PyData.strOk s = true) : ∀ {ts : List Str}, (∀ t ∈ ts, PyData.strOk t = true) → PyData.strOk (Str.join s ts) = true
  | [], _ => by simp [Str.join]; decide +kernel
  | [x], h => h x (by simp)
  | x :: y :: ts, h => by
    have i1 := sok_join hs (ts := y :: ts) fun t ht => h t (List.mem_cons_of_mem _ ht)
    exact sok_app (sok_app (h x (by simp)) hs) i1
theorem sok_from : ∀ (ts : List Str) (k : Nat) (acc : Str), PyData.strOk acc = true → (∀ t ∈ ts, PyData.strOk t = true) → PyData.strOk (textFrom k acc ts) = true
  | [], k, acc, ha, _ => ha
  | t :: ts, k, acc, ha, h => by
    show PyData.strOk (textFrom (k + 1) (acc ++ (if k > 0 then ", " else "" : String) ++ t) ts) = true
    exact sok_from ts (k + 1) _ (sok_app (sok_app ha (sok_of _)) (h t (by simp))) fun x hx => h x (by simp [hx])
theorem sok_list {ts : List Str} (h : ∀ t ∈ ts, PyData.strOk t = true) : PyData.strOk (listText ts) = true :=
  sok_app (sok_from ts 0 _ (sok_of "[") h) (sok_of "]")
theorem sok_tup {ts : List Str} (h : ∀ t ∈ ts, PyData.strOk t = true) : PyData.strOk (tupleText ts) = true := by
  unfold tupleText
  have hj := sok_join (sok_of ", ") h
  split
  · exact sok_app (sok_app (sok_of "(") hj) (sok_of ",)")
  · exact sok_app (sok_app (sok_of "(") hj) (sok_of ")")
/-- data that can be shown: at most k deep, in at most n signs -/
structure Sh (k n : Nat) (p : PyData) : Prop where
  s : p.showable = true
  d : p.hasDict = false
  k : p.depth ≤ k
  o : PyData.strOk p.shown = true
  l : p.shown.length ≤ n
structure ShL (k n : Nat) (ps : List PyData) : Prop where
  s : PyData.showableAll ps = true
  d : PyData.hasDictAll ps = false
  k : PyData.depthAll ps ≤ k
  o : ∀ t ∈ PyData.shownAll ps, PyData.strOk t = true
  l : ((PyData.shownAll ps).map (·.length)).sum ≤ ps.length * n
  c : (PyData.shownAll ps).length = ps.length
theorem ShL.of {k n : Nat} : ∀ {ps : List PyData}, (∀ p ∈ ps, Sh k n p) → ShL k n ps
  | [], _ => ⟨by simp [PyData.showableAll], by simp [PyData.hasDictAll], by simp [PyData.depthAll], by simp [PyData.shownAll], by simp [PyData.shownAll], by simp [PyData.shownAll]⟩
  | p :: ps, h => by
    have hp := h p (by simp)
    have hs := ShL.of (ps := ps) fun q hq => h q (by simp [hq])
    refine ⟨by simp [PyData.showableAll, hp.s, hs.s], by simp [PyData.hasDictAll, hp.d, hs.d], by simp only [PyData.depthAll]; exact Nat.max_le.mpr ⟨hp.k, hs.k⟩, ?_, ?_, by simp [PyData.shownAll, hs.c]⟩
    · intro t ht
      simp only [PyData.shownAll, List.mem_cons] at ht
      rcases ht with rfl | ht
      · exact hp.o
      · exact hs.o t ht
    · have h1 := hp.l
      have h2 := hs.l
      simp only [PyData.shownAll, List.map_cons, List.sum_cons, List.length_cons]
      rw [Nat.succ_mul]; omega
/-- .. of this layer -/
def Shw (k n : Nat) (d : D) : Prop := ∃ p, d.py = some p ∧ Sh k n p
theorem Shw.mono {k n k' n' : Nat} {d : D} (h : Shw k n d) (hk : k ≤ k') (hn : n ≤ n') : Shw k' n' d := by
  obtain ⟨p, e, h⟩ := h
  exact ⟨p, e, h.s, h.d, Nat.le_trans h.k hk, h.o, Nat.le_trans h.l hn⟩
theorem Shw.all {k n : Nat} {ds : List D} (h : ∀ d ∈ ds, Shw k n d) : ∃ ps, pyL ds = some ps ∧ ps.length = ds.length ∧ ∀ p ∈ ps, Sh k n p := by
  induction ds with
  | nil => exact ⟨[], by simp [pyL], rfl, by simp⟩
  | cons d ds ih =>
    obtain ⟨p, e, hp⟩ := h d (by simp)
    obtain ⟨ps, q1, q2, q3⟩ := ih fun x hx => h x (by simp [hx])
    refine ⟨p :: ps, by simp [pyL, e, q1], by simp [q2], fun q hq => ?_⟩
    rcases List.mem_cons.mp hq with rfl | hq
    · exact hp
    · exact q3 q hq
theorem Shw.non {k n : Nat} (hn : 4 ≤ n) : Shw k n .non := ⟨.none, by simp [D.py], by simp [PyData.showable], by simp [PyData.hasDict], by simp [PyData.depth], by simp only [PyData.shown]; exact sok_of _, by simp only [PyData.shown]; exact hn⟩
theorem Shw.bl {k n : Nat} (b : Bool) (hn : 5 ≤ n) : Shw k n (.bl b) := ⟨.bool b, by simp [D.py], by simp [PyData.showable], by simp [PyData.hasDict], by simp [PyData.depth], by simp only [PyData.shown]; cases b <;> exact sok_of _, by
  simp only [PyData.shown]
  have : (Str.ofString "True").length ≤ 5 ∧ (Str.ofString "False").length ≤ 5 := by decide +kernel
  cases b
  · exact Nat.le_trans this.2 hn
  · exact Nat.le_trans this.1 hn⟩
theorem Shw.int {k n : Nat} {i : Int} (h : i.natAbs < 10 ^ n) (hn : 0 < n) (h5 : n ≤ 500) : Shw k (n + 1) (.int i) := ⟨.int i, by simp [D.py], by
    simp only [PyData.showable, decide_eq_true_eq]
    by_cases h0 : i.natAbs = 0
    · rw [h0]; decide
    · refine (Nat.log2_lt h0).mpr (Nat.lt_of_lt_of_le h (Nat.le_trans (Nat.pow_le_pow_right (by decide) h5) (by decide +kernel))), by simp [PyData.hasDict], by simp [PyData.depth], by simp only [PyData.shown]; exact sok_of _, by
    have e := int_text_length_le10 hn h
    simp only [PyData.shown]
    show (Str.ofString (toString i)).length ≤ n + 1
    rw [ofString_length]; exact e⟩
theorem Shw.str {k n : Nat} {x : Str} (h : PyData.strOk (reprText x) = true ∧ (reprText x).length ≤ n) : Shw k n (.str x) := ⟨.str x, by simp [D.py], by simp [PyData.showable], by simp [PyData.hasDict], by simp [PyData.depth], by simp only [PyData.shown]; exact h.1, by simp only [PyData.shown]; exact h.2⟩
theorem Shw.tup {k n m : Nat} {ds : List D} (h : ∀ d ∈ ds, Shw k n d) (hm : ds.length * (n + 2) + 3 ≤ m) : Shw (k + 1) m (.nd .tup ds) := by
  obtain ⟨ps, q1, q2, q3⟩ := Shw.all h
  have hs := ShL.of q3
  refine ⟨.tuple ps, by simp [D.py, q1], by simp [PyData.showable, hs.s], by simp [PyData.hasDict, hs.d], by simp [PyData.depth]; have := hs.k; omega, by simp only [PyData.shown]; exact sok_tup hs.o, ?_⟩
  simp only [PyData.shown]
  have := tupleText_len_le (PyData.shownAll ps)
  have h1 := hs.l
  have h2 := hs.c
  rw [Nat.mul_add] at hm
  rw [q2] at h1 h2
  omega
theorem Shw.lst {k n m : Nat} {ds : List D} (h : ∀ d ∈ ds, Shw k n d) (hm : ds.length * (n + 2) + 3 ≤ m) : Shw (k + 1) m (.nd .lst ds) := by
  obtain ⟨ps, q1, q2, q3⟩ := Shw.all h
  have hs := ShL.of q3
  refine ⟨.list ps, by simp [D.py, q1], by simp [PyData.showable, hs.s], by simp [PyData.hasDict, hs.d], by simp [PyData.depth]; have := hs.k; omega, by simp only [PyData.shown]; exact sok_list hs.o, ?_⟩
  simp only [PyData.shown]
  have := listText_len_le (PyData.shownAll ps)
  have h1 := hs.l
  have h2 := hs.c
  rw [Nat.mul_add] at hm
  rw [q2] at h1 h2
  omega
/-- repr of what can be shown -/
theorem Shw.repr {k n : Nat} {d : D} (h : Shw k n d) (hk : k ≤ 60 := by decide) (hn : n ≤ 16777216 := by decide) : ∃ t, reprD [d] = some (.str t) ∧ PyData.strOk t = true := by
  obtain ⟨p, e, h⟩ := h
  refine ⟨p.shown, ?_, h.o⟩
  have : shownOk p = true := by
    have h1 := h.l
    have h2 := h.k
    have : p.shown.length ≤ sizeLine := small (by omega)
    simp [shownOk, h.s, h.d, this]; omega
  simp [reprD, e, this]
/-! ### lists of integers -/
@[simp] theorem v_maxN {a b : Nat} : max2 [.int (a : Int), .int (b : Int)] = some (.int ((max a b : Nat) : Int)) := by
  show some (D.int (if (b : Int) > (a : Int) then (b : Int) else (a : Int))) = _
  congr 2
  split <;> omega
@[simp] theorem v_minN {a b : Nat} : min2 [.int (a : Int), .int (b : Int)] = some (.int ((min a b : Nat) : Int)) := by
  show some (D.int (if (b : Int) < (a : Int) then (b : Int) else (a : Int))) = _
  congr 2
  split <;> omega
theorem v_rep {n : Nat} {d : D} (h : n ≤ 16777216) : repD (.nd .lst [d]) (.int (n : Int)) = some (List.replicate n d) := by
  have h1 : ((n : Int).natAbs < 9223372036854775808 ∧ [d].length * (n : Int).toNat ≤ sizeLine) := ⟨by omega, by simpa using small h⟩
  show (if _ then _ else _) = _
  rw [if_pos h1]
  congr 1
  induction n with
  | zero => rfl
  | succ n ih => simp
@[simp] theorem list_iw (l : List Int) : listD [iw l] = some (l.map .int) := rfl
@[simp] theorem list_il (l : List Int) : listD [il l] = some (l.map .int) := rfl
theorem cat_il {a b : List Int} (h : a.length + b.length ≤ 16777216) : catD (il a) (il b) = some ((a ++ b).map .int) := by
  unfold il; rw [v_catL (by simpa using small h), List.map_append]
theorem add_iw {a b : List Int} (h : a.length + b.length ≤ 16777216) : addD (iw a) (iw b) = some (iw (a ++ b)) := by
  unfold iw; rw [v_addT (by simpa using small h), List.map_append]
theorem atI_ints {l : List Int} {k : Nat} {x : Int} (h : l[k]? = some x) : L2.atI (l.map D.int) (k : Int) = some (.int x) := atI_nat (by rw [List.getElem?_map, h]; rfl)
theorem ixN_nat {m k : Nat} (h : k < m) : L2.ixN m (k : Int) = some k := by
  unfold L2.ixN
  rw [if_pos (Int.natCast_nonneg k), if_pos (by exact_mod_cast h)]
  simp
theorem last_ints {l : List Int} : (l.map D.int).getLast? = l.getLast?.map D.int := by simp
@[simp] theorem fz_ints (l : List Int) : (nl (l.map D.int)).fz = il l := nl_fz _
theorem cutT_lo {l : List Int} {n : Nat} : cutT none (some (n : Int)) (iw l) = some (iw (l.take n)) := by
  show some (D.nd .tup (cutD _ _ _)) = _
  rw [cutD_lo, ← List.map_take]; rfl
theorem cutT_hi {l : List Int} {n : Nat} : cutT (some (n : Int)) none (iw l) = some (iw (l.drop n)) := by
  show some (D.nd .tup (cutD _ _ _)) = _
  rw [cutD_hi, ← List.map_drop]; rfl
theorem cutL_lo {l : List Int} {n : Nat} : cutL none (some (n : Int)) (il l) = some ((l.take n).map .int) := by
  show some (cutD _ _ _) = _
  rw [cutD_lo, ← List.map_take]
theorem cutL_hi {l : List Int} {n : Nat} : cutL (some (n : Int)) none (il l) = some ((l.drop n).map .int) := by
  show some (cutD _ _ _) = _
  rw [cutD_hi, ← List.map_drop]
@[simp] theorem isi_int_iw (l : List Int) : isiD "int" (iw l) = some (.bl false) := isi_int_tup
@[simp] theorem isi_int_il (l : List Int) : isiD "int" (il l) = some (.bl false) := isi_int_lst
@[simp] theorem isi_bool_iw (l : List Int) : isiD "bool" (iw l) = some (.bl false) := isi_bool_tup
@[simp] theorem isi_bool_il (l : List Int) : isiD "bool" (il l) = some (.bl false) := isi_bool_lst
@[simp] theorem isi_tup_iw (l : List Int) : isiD "tuple" (iw l) = some (.bl true) := isi_tup_tup
@[simp] theorem isi_tup_il (l : List Int) : isiD "tuple" (il l) = some (.bl false) := isi_tup_lst
@[simp] theorem isi_lst_iw (l : List Int) : isiD "list" (iw l) = some (.bl false) := isi_lst_tup
@[simp] theorem isi_lst_il (l : List Int) : isiD "list" (il l) = some (.bl true) := isi_lst_lst
@[simp] theorem isi_str_iw (l : List Int) : isiD "str" (iw l) = some (.bl false) := isi_str_tup
@[simp] theorem isi_str_il (l : List Int) : isiD "str" (il l) = some (.bl false) := isi_str_lst
/-- a list told by its members -/
def tbl {α : Type} (n : Nat) (f : Nat → α) : List α := (List.range n).map f
@[simp] theorem tbl_len {α : Type} {n : Nat} {f : Nat → α} : (tbl n f).length = n := by simp [tbl]
theorem tbl_get {α : Type} {n k : Nat} {f : Nat → α} (h : k < n) : (tbl n f)[k]? = some (f k) := by simp [tbl, h]
theorem tbl_ext {α : Type} {n : Nat} {f g : Nat → α} (h : ∀ k, k < n → f k = g k) : tbl n f = tbl n g := by
  unfold tbl
  exact List.map_congr_left fun k hk => h k (by simpa using hk)
theorem tbl_set {α : Type} {n k : Nat} {f : Nat → α} {x : α} (h : k < n) : (tbl n f).set k x = tbl n fun j => if j = k then x else f j := by
  refine List.ext_getElem? fun i => ?_
  rw [List.getElem?_set]
  by_cases hi : i < n
  · rw [tbl_get (f := fun j => if j = k then x else f j) hi, tbl_get (f := f) hi]
    by_cases e : k = i
    · subst e; simp [h]
    · rw [if_neg e, if_neg (Ne.symm e)]
  · have e : ∀ g : Nat → α, (tbl n g)[i]? = none := fun g => by simp [tbl]; omega
    rw [e, e]
    split
    · rename_i q; subst q; omega
    · rfl
theorem tbl_rep {α : Type} {n : Nat} {x : α} : List.replicate n x = tbl n fun _ => x := by
  simp [tbl, List.map_const']
theorem tbl_of {α : Type} [Inhabited α] {l : List α} : l = tbl l.length fun k => l.getD k default := by
  refine List.ext_getElem? fun i => ?_
  by_cases hi : i < l.length
  · rw [tbl_get hi]; simp [hi]
  · rw [List.getElem?_eq_none (by omega), List.getElem?_eq_none (by simp; omega)]
theorem tbl_map {α β : Type} {n : Nat} {f : Nat → α} {g : α → β} : (tbl n f).map g = tbl n fun k => g (f k) := by simp [tbl]
theorem tbl_succ {α : Type} {n : Nat} {f : Nat → α} : tbl (n + 1) f = tbl n f ++ [f n] := by simp [tbl, List.range_succ]
@[simp] theorem il_fold (l : List Int) : D.nd .lst (l.map D.int) = il l := rfl
@[simp] theorem iw_fold (l : List Int) : D.nd .tup (l.map D.int) = iw l := rfl
@[simp] theorem iw_fold0 : D.nd .tup [] = iw [] := rfl
theorem mcomp_rng {v : Nat} {i : M (List D)} {f : M D} {g : Nat → D} {n : Nat} {ρ ρ1 : Env} (hi : i ρ = .ok ((List.range n).map nD, ρ1)) (hv : ρ1.set v none = ρ1) (hl : n ≤ 16777216)
    (hf : ∀ k, k < n → f (ρ1.set v (some (.val (.int (k : Int))))) = .ok (g k, ρ1.set v (some (.val (.int (k : Int)))))) :
    mcomp [v] i (bname v) (mret true) f ρ = .ok (nl ((List.range n).map g), ρ1) := by
  have h := mcomp_map (v := v) (f := f) (g := fun d => match d with | .int i => g i.toNat | x => x) hi hv (by simpa using small hl) (by
    intro d hd
    obtain ⟨k, hk, rfl⟩ := List.mem_map.mp hd
    exact hf k (by simpa using hk))
  rw [h]
  congr 3
  rw [List.map_map]
  exact List.map_congr_left fun k hk => by simp [nD]
theorem mcomp_ints {v : Nat} {i : M (List D)} {f : M D} {g : Int → D} {l : List Int} {ρ ρ1 : Env} (hi : i ρ = .ok (l.map .int, ρ1)) (hv : ρ1.set v none = ρ1) (hl : l.length ≤ 16777216)
    (hf : ∀ x, x ∈ l → f (ρ1.set v (some (.val (.int x)))) = .ok (g x, ρ1.set v (some (.val (.int x))))) :
    mcomp [v] i (bname v) (mret true) f ρ = .ok (nl (l.map g), ρ1) := by
  have h := mcomp_map (v := v) (f := f) (g := fun d => match d with | .int i => g i | x => x) hi hv (by simpa using small hl) (by
    intro d hd
    obtain ⟨k, hk, rfl⟩ := List.mem_map.mp hd
    exact hf k hk)
  rw [h]
  congr 3
  rw [List.map_map]
  exact List.map_congr_left fun k hk => rfl
theorem pop_ints {i : Nat} {l : List Int} {x : Int} {ρ : Env} (h : ρ[i]? = some (some (nl ((l ++ [x]).map D.int)))) : mlm gPop (pvar i) (fun _ => some []) ρ = .ok (.int x, ρ.set i (some (nl (l.map D.int)))) := by
  have := pop_nl (d := .int x) h (by simp)
  rw [this]
  simp
theorem app_ints {f : M (List D)} {i : Nat} {l : List Int} {x : Int} {ρ ρ' : Env} {ds0 : List D} (h0 : ρ[i]? = some (some (nl ds0))) (hf : f ρ = .ok ([.int x], ρ')) (h : ρ'[i]? = some (some (nl (l.map D.int)))) (hl : l.length < 16777216) : mlmN gApp i f ρ = .ok (.non, ρ'.set i (some (nl ((l ++ [x]).map D.int)))) := by
  have := app_nl (d := .int x) h0 hf h (by simpa using smallT hl)
  rw [this]
  simp
@[simp] theorem v_callR1 {F : Mir} {fs : M (List D)} {o : O} {x0 : Option O} {ρ : Env} : mcallR F 1 fs (x0 :: some o :: ρ) = mbind fs (fun ds => callAt F 1 ds) (x0 :: some o :: ρ) := nr rfl
@[simp] theorem v_callAt1 {F : Mir} {ds : List D} {o : O} {x0 : Option O} {ρ : Env} : callAt F 1 ds (x0 :: some o :: ρ) = (match F (o :: ds.map .val) with
    | .ok (o, o1) => .ok (o, x0 :: some o1 :: ρ)
    | .er c es _ => .er c es (x0 :: none :: ρ)
    | .stuck => .stuck) := by
  show (match F (o :: ds.map .val) with
    | .ok (o, o1) => Res.ok (o, (x0 :: some _ :: ρ).set 1 (some o1))
    | .er c es _ => .er c es ((x0 :: some _ :: ρ).set 1 none)
    | .stuck => .stuck) = _
  cases F (o :: ds.map .val) <;> rfl
@[simp] theorem v_callR2 {F : Mir} {fs : M (List D)} {o : O} {x0 x1 : Option O} {ρ : Env} : mcallR F 2 fs (x0 :: x1 :: some o :: ρ) = mbind fs (fun ds => callAt F 2 ds) (x0 :: x1 :: some o :: ρ) := nr rfl
@[simp] theorem v_callAt2 {F : Mir} {ds : List D} {o : O} {x0 x1 : Option O} {ρ : Env} : callAt F 2 ds (x0 :: x1 :: some o :: ρ) = (match F (o :: ds.map .val) with
    | .ok (o, o1) => .ok (o, x0 :: x1 :: some o1 :: ρ)
    | .er c es _ => .er c es (x0 :: x1 :: none :: ρ)
    | .stuck => .stuck) := by
  show (match F (o :: ds.map .val) with
    | .ok (o, o1) => Res.ok (o, (x0 :: x1 :: some _ :: ρ).set 2 (some o1))
    | .er c es _ => .er c es ((x0 :: x1 :: some _ :: ρ).set 2 none)
    | .stuck => .stuck) = _
  cases F (o :: ds.map .val) <;> rfl
@[simp] theorem v_callR3 {F : Mir} {fs : M (List D)} {o : O} {x0 x1 x2 : Option O} {ρ : Env} : mcallR F 3 fs (x0 :: x1 :: x2 :: some o :: ρ) = mbind fs (fun ds => callAt F 3 ds) (x0 :: x1 :: x2 :: some o :: ρ) := nr rfl
@[simp] theorem v_callAt3 {F : Mir} {ds : List D} {o : O} {x0 x1 x2 : Option O} {ρ : Env} : callAt F 3 ds (x0 :: x1 :: x2 :: some o :: ρ) = (match F (o :: ds.map .val) with
    | .ok (o, o1) => .ok (o, x0 :: x1 :: x2 :: some o1 :: ρ)
    | .er c es _ => .er c es (x0 :: x1 :: x2 :: none :: ρ)
    | .stuck => .stuck) := by
  show (match F (o :: ds.map .val) with
    | .ok (o, o1) => Res.ok (o, (x0 :: x1 :: x2 :: some _ :: ρ).set 3 (some o1))
    | .er c es _ => .er c es ((x0 :: x1 :: x2 :: some _ :: ρ).set 3 none)
    | .stuck => .stuck) = _
  cases F (o :: ds.map .val) <;> rfl
@[simp] theorem v_callR4 {F : Mir} {fs : M (List D)} {o : O} {x0 x1 x2 x3 : Option O} {ρ : Env} : mcallR F 4 fs (x0 :: x1 :: x2 :: x3 :: some o :: ρ) = mbind fs (fun ds => callAt F 4 ds) (x0 :: x1 :: x2 :: x3 :: some o :: ρ) := nr rfl
@[simp] theorem v_callAt4 {F : Mir} {ds : List D} {o : O} {x0 x1 x2 x3 : Option O} {ρ : Env} : callAt F 4 ds (x0 :: x1 :: x2 :: x3 :: some o :: ρ) = (match F (o :: ds.map .val) with
    | .ok (o, o1) => .ok (o, x0 :: x1 :: x2 :: x3 :: some o1 :: ρ)
    | .er c es _ => .er c es (x0 :: x1 :: x2 :: x3 :: none :: ρ)
    | .stuck => .stuck) := by
  show (match F (o :: ds.map .val) with
    | .ok (o, o1) => Res.ok (o, (x0 :: x1 :: x2 :: x3 :: some _ :: ρ).set 4 (some o1))
    | .er c es _ => .er c es ((x0 :: x1 :: x2 :: x3 :: some _ :: ρ).set 4 none)
    | .stuck => .stuck) = _
  cases F (o :: ds.map .val) <;> rfl
@[simp] theorem ro_0 {α : Type} {a0 : α} : ro [0] [a0] = [a0] := rfl
@[simp] theorem ro_01 {α : Type} {a0 a1 : α} : ro [0, 1] [a0, a1] = [a0, a1] := rfl
@[simp] theorem ro_10 {α : Type} {a0 a1 : α} : ro [1, 0] [a0, a1] = [a1, a0] := rfl
@[simp] theorem ro_012 {α : Type} {a0 a1 a2 : α} : ro [0, 1, 2] [a0, a1, a2] = [a0, a1, a2] := rfl
@[simp] theorem ro_021 {α : Type} {a0 a1 a2 : α} : ro [0, 2, 1] [a0, a1, a2] = [a0, a2, a1] := rfl
@[simp] theorem ro_102 {α : Type} {a0 a1 a2 : α} : ro [1, 0, 2] [a0, a1, a2] = [a1, a0, a2] := rfl
@[simp] theorem ro_120 {α : Type} {a0 a1 a2 : α} : ro [1, 2, 0] [a0, a1, a2] = [a1, a2, a0] := rfl
@[simp] theorem ro_201 {α : Type} {a0 a1 a2 : α} : ro [2, 0, 1] [a0, a1, a2] = [a2, a0, a1] := rfl
@[simp] theorem ro_210 {α : Type} {a0 a1 a2 : α} : ro [2, 1, 0] [a0, a1, a2] = [a2, a1, a0] := rfl
@[simp] theorem ro_0123 {α : Type} {a0 a1 a2 a3 : α} : ro [0, 1, 2, 3] [a0, a1, a2, a3] = [a0, a1, a2, a3] := rfl
@[simp] theorem ro_0132 {α : Type} {a0 a1 a2 a3 : α} : ro [0, 1, 3, 2] [a0, a1, a2, a3] = [a0, a1, a3, a2] := rfl
@[simp] theorem ro_0213 {α : Type} {a0 a1 a2 a3 : α} : ro [0, 2, 1, 3] [a0, a1, a2, a3] = [a0, a2, a1, a3] := rfl
@[simp] theorem ro_0231 {α : Type} {a0 a1 a2 a3 : α} : ro [0, 2, 3, 1] [a0, a1, a2, a3] = [a0, a2, a3, a1] := rfl
@[simp] theorem ro_0312 {α : Type} {a0 a1 a2 a3 : α} : ro [0, 3, 1, 2] [a0, a1, a2, a3] = [a0, a3, a1, a2] := rfl
@[simp] theorem ro_0321 {α : Type} {a0 a1 a2 a3 : α} : ro [0, 3, 2, 1] [a0, a1, a2, a3] = [a0, a3, a2, a1] := rfl
@[simp] theorem ro_1023 {α : Type} {a0 a1 a2 a3 : α} : ro [1, 0, 2, 3] [a0, a1, a2, a3] = [a1, a0, a2, a3] := rfl
@[simp] theorem ro_1032 {α : Type} {a0 a1 a2 a3 : α} : ro [1, 0, 3, 2] [a0, a1, a2, a3] = [a1, a0, a3, a2] := rfl
@[simp] theorem ro_1203 {α : Type} {a0 a1 a2 a3 : α} : ro [1, 2, 0, 3] [a0, a1, a2, a3] = [a1, a2, a0, a3] := rfl
@[simp] theorem ro_1230 {α : Type} {a0 a1 a2 a3 : α} : ro [1, 2, 3, 0] [a0, a1, a2, a3] = [a1, a2, a3, a0] := rfl
@[simp] theorem ro_1302 {α : Type} {a0 a1 a2 a3 : α} : ro [1, 3, 0, 2] [a0, a1, a2, a3] = [a1, a3, a0, a2] := rfl
@[simp] theorem ro_1320 {α : Type} {a0 a1 a2 a3 : α} : ro [1, 3, 2, 0] [a0, a1, a2, a3] = [a1, a3, a2, a0] := rfl
@[simp] theorem ro_2013 {α : Type} {a0 a1 a2 a3 : α} : ro [2, 0, 1, 3] [a0, a1, a2, a3] = [a2, a0, a1, a3] := rfl
@[simp] theorem ro_2031 {α : Type} {a0 a1 a2 a3 : α} : ro [2, 0, 3, 1] [a0, a1, a2, a3] = [a2, a0, a3, a1] := rfl
@[simp] theorem ro_2103 {α : Type} {a0 a1 a2 a3 : α} : ro [2, 1, 0, 3] [a0, a1, a2, a3] = [a2, a1, a0, a3] := rfl
@[simp] theorem ro_2130 {α : Type} {a0 a1 a2 a3 : α} : ro [2, 1, 3, 0] [a0, a1, a2, a3] = [a2, a1, a3, a0] := rfl
@[simp] theorem ro_2301 {α : Type} {a0 a1 a2 a3 : α} : ro [2, 3, 0, 1] [a0, a1, a2, a3] = [a2, a3, a0, a1] := rfl
@[simp] theorem ro_2310 {α : Type} {a0 a1 a2 a3 : α} : ro [2, 3, 1, 0] [a0, a1, a2, a3] = [a2, a3, a1, a0] := rfl
@[simp] theorem ro_3012 {α : Type} {a0 a1 a2 a3 : α} : ro [3, 0, 1, 2] [a0, a1, a2, a3] = [a3, a0, a1, a2] := rfl
@[simp] theorem ro_3021 {α : Type} {a0 a1 a2 a3 : α} : ro [3, 0, 2, 1] [a0, a1, a2, a3] = [a3, a0, a2, a1] := rfl
@[simp] theorem ro_3102 {α : Type} {a0 a1 a2 a3 : α} : ro [3, 1, 0, 2] [a0, a1, a2, a3] = [a3, a1, a0, a2] := rfl
@[simp] theorem ro_3120 {α : Type} {a0 a1 a2 a3 : α} : ro [3, 1, 2, 0] [a0, a1, a2, a3] = [a3, a1, a2, a0] := rfl
@[simp] theorem ro_3201 {α : Type} {a0 a1 a2 a3 : α} : ro [3, 2, 0, 1] [a0, a1, a2, a3] = [a3, a2, a0, a1] := rfl
@[simp] theorem ro_3210 {α : Type} {a0 a1 a2 a3 : α} : ro [3, 2, 1, 0] [a0, a1, a2, a3] = [a3, a2, a1, a0] := rfl
end Y
set_option Elab.async false
set_option maxRecDepth 100000
set_option linter.all false
set_option maxHeartbeats 2000000
namespace L52
open PySem L2 Y
open PySem.Spec PyProof.Rows
def top (i : Nat) : Stmt := PySem.Challenge.pw_normalrealm_k52_polynomials_by_members.main.body.getD i (.Pass ⟨0, 0, 0, 0⟩)
abbrev s_trimmed : Stmt := top 1
abbrev s_is_integer : Stmt := top 10
abbrev s_is_polynomial : Stmt := top 12
abbrev s_look_at_polynomials : Stmt := top 13
abbrev s_negative : Stmt := top 14
abbrev s_sum_of : Stmt := top 15
abbrev s_product_of : Stmt := top 16
abbrev s_plus : Stmt := top 17
abbrev s_less : Stmt := top 18
abbrev s_times : Stmt := top 19
abbrev s_value_at : Stmt := top 20
abbrev s__law_deck : Stmt := top 22
abbrev s__law_draw : Stmt := top 23
abbrev s__law_same : Stmt := top 24
abbrev s__law_trim : Stmt := top 25
abbrev s__law_plus : Stmt := top 26
abbrev s__law_times : Stmt := top 27
abbrev s__law_figures : Stmt := top 28
abbrev s__law_drawn : Stmt := top 29
abbrev s__law_kin : Stmt := top 30
abbrev s__law_told : Stmt := top 31
abbrev s__law_value : Stmt := top 32
abbrev s__law_answered : Stmt := top 33
abbrev s__law_odd : Stmt := top 34
abbrev s__law_judged : Stmt := top 35
abbrev s__law_refused : Stmt := top 36
abbrev s__law_all : Stmt := top 37
abbrev s_law : Stmt := top 38
abbrev s_i_InvalidNumber : Stmt := inClass (top 4) 0
abbrev s_i_InvalidWord : Stmt := inClass (top 5) 0
abbrev s_i_InvalidPolynomial : Stmt := inClass (top 6) 0
abbrev s_i_InvalidRows : Stmt := inClass (top 7) 0
abbrev s_i_Undefined : Stmt := inClass (top 8) 0
/-- the fields of the classes -/
def fl : Nat → List Str
  | 1 => ["value"]
  | 2 => ["value"]
  | 3 => ["value"]
  | 4 => ["value"]
  | 5 => ["what"]
  | _ => []
def tb (K : PySem.W.Frag) (C : Nat → Addr) : Tb := ⟨K, C, fl, fun _ => none, fun _ _ => True, fun _ _ _ _ _ h => h⟩
def mt_NormalError : Nat → Option Bool
  | 1 => some true
  | 2 => some true
  | 3 => some true
  | 4 => some true
  | 5 => some true
  | _ => none
def mt_InvalidNumber : Nat → Option Bool
  | 1 => some true
  | 2 => some false
  | 3 => some false
  | 4 => some false
  | 5 => some false
  | _ => none
theorem mt_InvalidNumber_is {c : Nat} (h : mt_InvalidNumber c = some true) : c = 1 := by
  unfold mt_InvalidNumber at h; split at h <;> simp_all
def mt_InvalidWord : Nat → Option Bool
  | 1 => some false
  | 2 => some true
  | 3 => some false
  | 4 => some false
  | 5 => some false
  | _ => none
theorem mt_InvalidWord_is {c : Nat} (h : mt_InvalidWord c = some true) : c = 2 := by
  unfold mt_InvalidWord at h; split at h <;> simp_all
def mt_InvalidPolynomial : Nat → Option Bool
  | 1 => some false
  | 2 => some false
  | 3 => some true
  | 4 => some false
  | 5 => some false
  | _ => none
theorem mt_InvalidPolynomial_is {c : Nat} (h : mt_InvalidPolynomial c = some true) : c = 3 := by
  unfold mt_InvalidPolynomial at h; split at h <;> simp_all
def mt_InvalidRows : Nat → Option Bool
  | 1 => some false
  | 2 => some false
  | 3 => some false
  | 4 => some true
  | 5 => some false
  | _ => none
theorem mt_InvalidRows_is {c : Nat} (h : mt_InvalidRows c = some true) : c = 4 := by
  unfold mt_InvalidRows at h; split at h <;> simp_all
def mt_Undefined : Nat → Option Bool
  | 1 => some false
  | 2 => some false
  | 3 => some false
  | 4 => some false
  | 5 => some true
  | _ => none
theorem mt_Undefined_is {c : Nat} (h : mt_Undefined c = some true) : c = 5 := by
  unfold mt_Undefined at h; split at h <;> simp_all
def mtT_ValueError : Nat → Option Bool
  | 1 => some true
  | 2 => some true
  | 3 => some true
  | 4 => some true
  | 5 => some true
  | _ => none
theorem bt_ValueError : bootBuiltins "ValueError" = some (.type "ValueError") := by decide +kernel
theorem bt_abs : bootBuiltins "abs" = some (.builtin "abs") := by decide +kernel
theorem bt_bool : bootBuiltins "bool" = some (.type "bool") := by decide +kernel
theorem bt_int : bootBuiltins "int" = some (.type "int") := by decide +kernel
theorem bt_len : bootBuiltins "len" = some (.builtin "len") := by decide +kernel
theorem bt_list : bootBuiltins "list" = some (.type "list") := by decide +kernel
theorem bt_max : bootBuiltins "max" = some (.builtin "max") := by decide +kernel
theorem bt_repr : bootBuiltins "repr" = some (.builtin "repr") := by decide +kernel
theorem bt_str : bootBuiltins "str" = some (.type "str") := by decide +kernel
theorem bt_tuple : bootBuiltins "tuple" = some (.type "tuple") := by decide +kernel
abbrev N_trimmed : List Str := ["members", "many"]
theorem sc_trimmed : FnScope N_trimmed ["members"] (defScope s_trimmed) := ⟨rfl, rfl, rfl, by decide +kernel, rfl, by decide +kernel, by decide +kernel⟩
abbrev N_is_integer : List Str := ["value"]
theorem sc_is_integer : FnScope N_is_integer ["value"] (defScope s_is_integer) := ⟨rfl, rfl, rfl, by decide +kernel, rfl, by decide +kernel, by decide +kernel⟩
abbrev N_is_polynomial : List Str := ["value", "member"]
theorem sc_is_polynomial : FnScope N_is_polynomial ["value"] (defScope s_is_polynomial) := ⟨rfl, rfl, rfl, by decide +kernel, rfl, by decide +kernel, by decide +kernel⟩
abbrev N_look_at_polynomials : List Str := ["values", "value"]
theorem sc_look_at_polynomials : FnScope N_look_at_polynomials ["values"] (defScope s_look_at_polynomials) := ⟨rfl, rfl, rfl, by decide +kernel, rfl, by decide +kernel, by decide +kernel⟩
abbrev N_negative : List Str := ["one", "member"]
theorem sc_negative : FnScope N_negative ["one"] (defScope s_negative) := ⟨rfl, rfl, rfl, by decide +kernel, rfl, by decide +kernel, by decide +kernel⟩
abbrev N_sum_of : List Str := ["one", "other", "found", "place", "member"]
theorem sc_sum_of : FnScope N_sum_of ["one", "other"] (defScope s_sum_of) := ⟨rfl, rfl, rfl, by decide +kernel, rfl, by decide +kernel, by decide +kernel⟩
abbrev N_product_of : List Str := ["one", "other", "found", "place", "member", "further", "factor"]
theorem sc_product_of : FnScope N_product_of ["one", "other"] (defScope s_product_of) := ⟨rfl, rfl, rfl, by decide +kernel, rfl, by decide +kernel, by decide +kernel⟩
abbrev N_plus : List Str := ["one", "other"]
theorem sc_plus : FnScope N_plus ["one", "other"] (defScope s_plus) := ⟨rfl, rfl, rfl, by decide +kernel, rfl, by decide +kernel, by decide +kernel⟩
abbrev N_less : List Str := ["one", "other"]
theorem sc_less : FnScope N_less ["one", "other"] (defScope s_less) := ⟨rfl, rfl, rfl, by decide +kernel, rfl, by decide +kernel, by decide +kernel⟩
abbrev N_times : List Str := ["one", "other"]
theorem sc_times : FnScope N_times ["one", "other"] (defScope s_times) := ⟨rfl, rfl, rfl, by decide +kernel, rfl, by decide +kernel, by decide +kernel⟩
abbrev N_value_at : List Str := ["one", "number", "found", "member"]
theorem sc_value_at : FnScope N_value_at ["one", "number"] (defScope s_value_at) := ⟨rfl, rfl, rfl, by decide +kernel, rfl, by decide +kernel, by decide +kernel⟩
abbrev N__law_deck : List Str := ["script", "cell"]
theorem sc__law_deck : FnScope N__law_deck ["script"] (defScope s__law_deck) := ⟨rfl, rfl, rfl, by decide +kernel, rfl, by decide +kernel, by decide +kernel⟩
abbrev N__law_draw : List Str := ["deck", "many", "cell", "digit", "mixed"]
theorem sc__law_draw : FnScope N__law_draw ["deck", "many"] (defScope s__law_draw) := ⟨rfl, rfl, rfl, by decide +kernel, rfl, by decide +kernel, by decide +kernel⟩
abbrev N__law_same : List Str := ["told", "due", "n"]
theorem sc__law_same : FnScope N__law_same ["told", "due"] (defScope s__law_same) := ⟨rfl, rfl, rfl, by decide +kernel, rfl, by decide +kernel, by decide +kernel⟩
abbrev N__law_trim : List Str := ["row", "n"]
theorem sc__law_trim : FnScope N__law_trim ["row"] (defScope s__law_trim) := ⟨rfl, rfl, rfl, by decide +kernel, rfl, by decide +kernel, by decide +kernel⟩
abbrev N__law_plus : List Str := ["one", "other", "sign", "many", "left", "right", "n"]
theorem sc__law_plus : FnScope N__law_plus ["one", "other", "sign"] (defScope s__law_plus) := ⟨rfl, rfl, rfl, by decide +kernel, rfl, by decide +kernel, by decide +kernel⟩
abbrev N__law_times : List Str := ["one", "other", "out", "i", "j"]
theorem sc__law_times : FnScope N__law_times ["one", "other"] (defScope s__law_times) := ⟨rfl, rfl, rfl, by decide +kernel, rfl, by decide +kernel, by decide +kernel⟩
abbrev N__law_figures : List Str := ["deck", "most", "value", "n"]
theorem sc__law_figures : FnScope N__law_figures ["deck", "most"] (defScope s__law_figures) := ⟨rfl, rfl, rfl, by decide +kernel, rfl, by decide +kernel, by decide +kernel⟩
abbrev N__law_drawn : List Str := ["deck", "most", "figures", "row", "n"]
theorem sc__law_drawn : FnScope N__law_drawn ["deck", "most", "figures"] (defScope s__law_drawn) := ⟨rfl, rfl, rfl, by decide +kernel, rfl, by decide +kernel, by decide +kernel⟩
abbrev N__law_kin : List Str := ["deck", "one", "at", "sign", "n", "c"]
theorem sc__law_kin : FnScope N__law_kin ["deck", "one"] (defScope s__law_kin) := ⟨rfl, rfl, rfl, by decide +kernel, rfl, by decide +kernel, by decide +kernel⟩
abbrev N__law_told : List Str := ["which", "one", "other", "named", "e"]
theorem sc__law_told : FnScope N__law_told ["which", "one", "other", "named"] (defScope s__law_told) := ⟨rfl, rfl, rfl, by decide +kernel, rfl, by decide +kernel, by decide +kernel⟩
abbrev N__law_value : List Str := ["one", "number", "value", "c"]
theorem sc__law_value : FnScope N__law_value ["one", "number"] (defScope s__law_value) := ⟨rfl, rfl, rfl, by decide +kernel, rfl, by decide +kernel, by decide +kernel⟩
abbrev N__law_answered : List Str := ["deck", "one", "other", "dues", "which", "told", "due", "number"]
theorem sc__law_answered : FnScope N__law_answered ["deck", "one", "other"] (defScope s__law_answered) := ⟨rfl, rfl, rfl, by decide +kernel, rfl, by decide +kernel, by decide +kernel⟩
abbrev N__law_odd : List Str := ["deck", "one", "at", "row"]
theorem sc__law_odd : FnScope N__law_odd ["deck", "one"] (defScope s__law_odd) := ⟨rfl, rfl, rfl, by decide +kernel, rfl, by decide +kernel, by decide +kernel⟩
abbrev N__law_judged : List Str := ["deck", "one", "short", "value", "odd", "turn", "kept", "told"]
theorem sc__law_judged : FnScope N__law_judged ["deck", "one"] (defScope s__law_judged) := ⟨rfl, rfl, rfl, by decide +kernel, rfl, by decide +kernel, by decide +kernel⟩
abbrev N__law_refused : List Str := ["deck", "one", "odd", "numbers", "which", "bad", "worse", "due", "named"]
theorem sc__law_refused : FnScope N__law_refused ["deck", "one"] (defScope s__law_refused) := ⟨rfl, rfl, rfl, by decide +kernel, rfl, by decide +kernel, by decide +kernel⟩
abbrev N__law_all : List Str := ["script", "deck", "most", "figures", "one", "other", "small"]
theorem sc__law_all : FnScope N__law_all ["script"] (defScope s__law_all) := ⟨rfl, rfl, rfl, by decide +kernel, rfl, by decide +kernel, by decide +kernel⟩
abbrev N_law : List Str := ["script"]
theorem sc_law : FnScope N_law ["script"] (defScope s_law) := ⟨rfl, rfl, rfl, by decide +kernel, rfl, by decide +kernel, by decide +kernel⟩
theorem sci_InvalidNumber : FnScope ["self", "value"] ["self", "value"] (defScope s_i_InvalidNumber) := ⟨rfl, rfl, rfl, by decide +kernel, rfl, by decide +kernel, by decide +kernel⟩
theorem sci_InvalidWord : FnScope ["self", "value"] ["self", "value"] (defScope s_i_InvalidWord) := ⟨rfl, rfl, rfl, by decide +kernel, rfl, by decide +kernel, by decide +kernel⟩
theorem sci_InvalidPolynomial : FnScope ["self", "value"] ["self", "value"] (defScope s_i_InvalidPolynomial) := ⟨rfl, rfl, rfl, by decide +kernel, rfl, by decide +kernel, by decide +kernel⟩
theorem sci_InvalidRows : FnScope ["self", "value"] ["self", "value"] (defScope s_i_InvalidRows) := ⟨rfl, rfl, rfl, by decide +kernel, rfl, by decide +kernel, by decide +kernel⟩
theorem sci_Undefined : FnScope ["self", "what"] ["self", "what"] (defScope s_i_Undefined) := ⟨rfl, rfl, rfl, by decide +kernel, rfl, by decide +kernel, by decide +kernel⟩
structure Tx (P : Program) (w : World) (K : PySem.W.Frag) (mg : Str → Option Value) (base : Heap) (C : Nat → Addr) (f : Nat → Addr) (fd : Nat → FuncData) : Prop where
  p_trimmed : Fun K "trimmed" "trimmed" s_trimmed (f 0) (fd 0)
  b_trimmed : Binds K (fd 0) ["members"] []
  m_trimmed : mg "trimmed" = some (.ref (f 0))
  p_is_integer : Fun K "is_integer" "is_integer" s_is_integer (f 1) (fd 1)
  b_is_integer : Binds K (fd 1) ["value"] []
  m_is_integer : mg "is_integer" = some (.ref (f 1))
  p_is_polynomial : Fun K "is_polynomial" "is_polynomial" s_is_polynomial (f 2) (fd 2)
  b_is_polynomial : Binds K (fd 2) ["value"] []
  m_is_polynomial : mg "is_polynomial" = some (.ref (f 2))
  p_look_at_polynomials : Fun K "look_at_polynomials" "look_at_polynomials" s_look_at_polynomials (f 3) (fd 3)
  b_look_at_polynomials : Binds K (fd 3) ["values"] []
  m_look_at_polynomials : mg "look_at_polynomials" = some (.ref (f 3))
  p_negative : Fun K "negative" "negative" s_negative (f 4) (fd 4)
  b_negative : Binds K (fd 4) ["one"] []
  m_negative : mg "negative" = some (.ref (f 4))
  p_sum_of : Fun K "sum_of" "sum_of" s_sum_of (f 5) (fd 5)
  b_sum_of : Binds K (fd 5) ["one", "other"] []
  m_sum_of : mg "sum_of" = some (.ref (f 5))
  p_product_of : Fun K "product_of" "product_of" s_product_of (f 6) (fd 6)
  b_product_of : Binds K (fd 6) ["one", "other"] []
  m_product_of : mg "product_of" = some (.ref (f 6))
  p_plus : Fun K "plus" "plus" s_plus (f 7) (fd 7)
  b_plus : Binds K (fd 7) ["one", "other"] []
  m_plus : mg "plus" = some (.ref (f 7))
  p_less : Fun K "less" "less" s_less (f 8) (fd 8)
  b_less : Binds K (fd 8) ["one", "other"] []
  m_less : mg "less" = some (.ref (f 8))
  p_times : Fun K "times" "times" s_times (f 9) (fd 9)
  b_times : Binds K (fd 9) ["one", "other"] []
  m_times : mg "times" = some (.ref (f 9))
  p_value_at : Fun K "value_at" "value_at" s_value_at (f 10) (fd 10)
  b_value_at : Binds K (fd 10) ["one", "number"] []
  m_value_at : mg "value_at" = some (.ref (f 10))
  p__law_deck : Fun K "_law_deck" "_law_deck" s__law_deck (f 11) (fd 11)
  b__law_deck : Binds K (fd 11) ["script"] []
  m__law_deck : mg "_law_deck" = some (.ref (f 11))
  p__law_draw : Fun K "_law_draw" "_law_draw" s__law_draw (f 12) (fd 12)
  b__law_draw : Binds K (fd 12) ["deck", "many"] []
  m__law_draw : mg "_law_draw" = some (.ref (f 12))
  p__law_same : Fun K "_law_same" "_law_same" s__law_same (f 13) (fd 13)
  b__law_same : Binds K (fd 13) ["told", "due"] []
  m__law_same : mg "_law_same" = some (.ref (f 13))
  p__law_trim : Fun K "_law_trim" "_law_trim" s__law_trim (f 14) (fd 14)
  b__law_trim : Binds K (fd 14) ["row"] []
  m__law_trim : mg "_law_trim" = some (.ref (f 14))
  p__law_plus : Fun K "_law_plus" "_law_plus" s__law_plus (f 15) (fd 15)
  b__law_plus : Binds K (fd 15) ["one", "other", "sign"] []
  m__law_plus : mg "_law_plus" = some (.ref (f 15))
  p__law_times : Fun K "_law_times" "_law_times" s__law_times (f 16) (fd 16)
  b__law_times : Binds K (fd 16) ["one", "other"] []
  m__law_times : mg "_law_times" = some (.ref (f 16))
  p__law_figures : Fun K "_law_figures" "_law_figures" s__law_figures (f 17) (fd 17)
  b__law_figures : Binds K (fd 17) ["deck", "most"] []
  m__law_figures : mg "_law_figures" = some (.ref (f 17))
  p__law_drawn : Fun K "_law_drawn" "_law_drawn" s__law_drawn (f 18) (fd 18)
  b__law_drawn : Binds K (fd 18) ["deck", "most", "figures"] []
  m__law_drawn : mg "_law_drawn" = some (.ref (f 18))
  p__law_kin : Fun K "_law_kin" "_law_kin" s__law_kin (f 19) (fd 19)
  b__law_kin : Binds K (fd 19) ["deck", "one"] []
  m__law_kin : mg "_law_kin" = some (.ref (f 19))
  p__law_told : Fun K "_law_told" "_law_told" s__law_told (f 20) (fd 20)
  b__law_told : Binds K (fd 20) ["which", "one", "other", "named"] []
  m__law_told : mg "_law_told" = some (.ref (f 20))
  p__law_value : Fun K "_law_value" "_law_value" s__law_value (f 21) (fd 21)
  b__law_value : Binds K (fd 21) ["one", "number"] []
  m__law_value : mg "_law_value" = some (.ref (f 21))
  p__law_answered : Fun K "_law_answered" "_law_answered" s__law_answered (f 22) (fd 22)
  b__law_answered : Binds K (fd 22) ["deck", "one", "other"] []
  m__law_answered : mg "_law_answered" = some (.ref (f 22))
  p__law_odd : Fun K "_law_odd" "_law_odd" s__law_odd (f 23) (fd 23)
  b__law_odd : Binds K (fd 23) ["deck", "one"] []
  m__law_odd : mg "_law_odd" = some (.ref (f 23))
  p__law_judged : Fun K "_law_judged" "_law_judged" s__law_judged (f 24) (fd 24)
  b__law_judged : Binds K (fd 24) ["deck", "one"] []
  m__law_judged : mg "_law_judged" = some (.ref (f 24))
  p__law_refused : Fun K "_law_refused" "_law_refused" s__law_refused (f 25) (fd 25)
  b__law_refused : Binds K (fd 25) ["deck", "one"] []
  m__law_refused : mg "_law_refused" = some (.ref (f 25))
  p__law_all : Fun K "_law_all" "_law_all" s__law_all (f 26) (fd 26)
  b__law_all : Binds K (fd 26) ["script"] []
  m__law_all : mg "_law_all" = some (.ref (f 26))
  p_law : Fun K "law" "law" s_law (f 27) (fd 27)
  b_law : Binds K (fd 27) ["script"] []
  m_law : mg "law" = some (.ref (f 27))
  kvalue_at_10 : ∀ (s : Shared) (ws : List Value), K.In s.heap → ws.length = 2 → BindsTo s (fd 10) ⟨[], (["number", "one"] : List Str).zip ws⟩ ((["one", "number"] : List Str).zip (ro [1, 0] ws))
  kplus_10 : ∀ (s : Shared) (ws : List Value), K.In s.heap → ws.length = 2 → BindsTo s (fd 7) ⟨[], (["other", "one"] : List Str).zip ws⟩ ((["one", "other"] : List Str).zip (ro [1, 0] ws))
  kless_10 : ∀ (s : Shared) (ws : List Value), K.In s.heap → ws.length = 2 → BindsTo s (fd 8) ⟨[], (["other", "one"] : List Str).zip ws⟩ ((["one", "other"] : List Str).zip (ro [1, 0] ws))
  ktimes_10 : ∀ (s : Shared) (ws : List Value), K.In s.heap → ws.length = 2 → BindsTo s (fd 9) ⟨[], (["other", "one"] : List Str).zip ws⟩ ((["one", "other"] : List Str).zip (ro [1, 0] ws))
  kis_polynomial_0 : ∀ (s : Shared) (ws : List Value), K.In s.heap → ws.length = 1 → BindsTo s (fd 2) ⟨[], (["value"] : List Str).zip ws⟩ ((["value"] : List Str).zip (ro [0] ws))
  n_ValueError : mg "ValueError" = none
  n_abs : mg "abs" = none
  n_bool : mg "bool" = none
  n_enumerate : mg "enumerate" = none
  n_int : mg "int" = none
  n_isinstance : mg "isinstance" = none
  n_len : mg "len" = none
  n_list : mg "list" = none
  n_max : mg "max" = none
  n_range : mg "range" = none
  n_repr : mg "repr" = none
  n_str : mg "str" = none
  n_tuple : mg "tuple" = none
  m_NormalError : mg "NormalError" = some (.ref (C 0))
  mT_NormalError : ∀ c b, mt_NormalError c = some b → PySem.W.exmOne K (.ref (C c)) (.ref (C 0)) = some b
  m_InvalidNumber : mg "InvalidNumber" = some (.ref (C 1))
  o_InvalidNumber : OexC K (C 1)
  i_InvalidNumber : PySem.W.findIn K (.ref (C 1)) "__init__" = some (some (.ref (f 28)))
  t_InvalidNumber : PySem.W.typeIn K (.ref (f 28)) = some (.type "function")
  f_InvalidNumber_0 : PySem.W.findIn K (.ref (C 1)) "value" = some none
  q_InvalidNumber : Fun K "__init__" "InvalidNumber.__init__" s_i_InvalidNumber (f 28) (fd 28)
  bi_InvalidNumber : Binds K (fd 28) ["self", "value"] []
  mT_InvalidNumber : ∀ c b, mt_InvalidNumber c = some b → PySem.W.exmOne K (.ref (C c)) (.ref (C 1)) = some b
  xf_InvalidNumber : ∀ {c}, mt_InvalidNumber c = some true → XfC K (C c)
  no_InvalidNumber_value : ∀ {c}, mt_InvalidNumber c = some true → PySem.W.findIn K (.ref (C c)) "value" = some none
  m_InvalidWord : mg "InvalidWord" = some (.ref (C 2))
  m_InvalidPolynomial : mg "InvalidPolynomial" = some (.ref (C 3))
  o_InvalidPolynomial : OexC K (C 3)
  i_InvalidPolynomial : PySem.W.findIn K (.ref (C 3)) "__init__" = some (some (.ref (f 29)))
  t_InvalidPolynomial : PySem.W.typeIn K (.ref (f 29)) = some (.type "function")
  f_InvalidPolynomial_0 : PySem.W.findIn K (.ref (C 3)) "value" = some none
  q_InvalidPolynomial : Fun K "__init__" "InvalidPolynomial.__init__" s_i_InvalidPolynomial (f 29) (fd 29)
  bi_InvalidPolynomial : Binds K (fd 29) ["self", "value"] []
  mT_InvalidPolynomial : ∀ c b, mt_InvalidPolynomial c = some b → PySem.W.exmOne K (.ref (C c)) (.ref (C 3)) = some b
  xf_InvalidPolynomial : ∀ {c}, mt_InvalidPolynomial c = some true → XfC K (C c)
  no_InvalidPolynomial_value : ∀ {c}, mt_InvalidPolynomial c = some true → PySem.W.findIn K (.ref (C c)) "value" = some none
  m_InvalidRows : mg "InvalidRows" = some (.ref (C 4))
  m_Undefined : mg "Undefined" = some (.ref (C 5))
  xi_InvalidPolynomial : ∀ {c}, mt_InvalidPolynomial c = some true → XiC K (C c)
  kI_InvalidRows : ∀ c b, mt_InvalidRows c = some b → PySem.W.kitOne K (.ref (C c)) (.ref (C 4)) = some b
  kI_InvalidNumber : ∀ c b, mt_InvalidNumber c = some b → PySem.W.kitOne K (.ref (C c)) (.ref (C 1)) = some b
  kI_NormalError : ∀ c b, mt_NormalError c = some b → PySem.W.kitOne K (.ref (C c)) (.ref (C 0)) = some b
  kI_Undefined : ∀ c b, mt_Undefined c = some b → PySem.W.kitOne K (.ref (C c)) (.ref (C 5)) = some b
  kI_InvalidWord : ∀ c b, mt_InvalidWord c = some b → PySem.W.kitOne K (.ref (C c)) (.ref (C 2)) = some b
  kT_ValueError : ∀ c b, mtT_ValueError c = some b → PySem.W.kitOne K (.ref (C c)) (.type "ValueError") = some b
section
variable {P : Program} {w : World} {K : PySem.W.Frag} {mg : Str → Option Value} {base : Heap} {C : Nat → Addr} {f : Nat → Addr} {fd : Nat → FuncData}
theorem Tx.nm_NormalError {X : Cx} (T : Tx P w K mg base C f fd) (hm : X.mg = mg := by rfl) (hg : Gl X "NormalError" := by rfl) : Names X "NormalError" (.ref (C 0)) := ⟨hg, by decide, .inl (by rw [hm]; exact T.m_NormalError)⟩
theorem fl_InvalidNumber_0 {c : Nat} (h : mt_InvalidNumber c = some true) : (fl c)[0]? = some ("value" : Str) := by
  rcases mt_InvalidNumber_is h with rfl <;> rfl
theorem Tx.nm_InvalidNumber {X : Cx} (T : Tx P w K mg base C f fd) (hm : X.mg = mg := by rfl) (hg : Gl X "InvalidNumber" := by rfl) : Names X "InvalidNumber" (.ref (C 1)) := ⟨hg, by decide, .inl (by rw [hm]; exact T.m_InvalidNumber)⟩
theorem Tx.ok_InvalidNumber (T : Tx P w K mg base C f fd) : FnOk P w K mg base CX0 1 (f 28) (fd 28) ["self", "value"] (spI1 K "value") := ok_i1 T.q_InvalidNumber sci_InvalidNumber rfl
theorem fl_InvalidPolynomial_0 {c : Nat} (h : mt_InvalidPolynomial c = some true) : (fl c)[0]? = some ("value" : Str) := by
  rcases mt_InvalidPolynomial_is h with rfl <;> rfl
theorem Tx.nm_InvalidPolynomial {X : Cx} (T : Tx P w K mg base C f fd) (hm : X.mg = mg := by rfl) (hg : Gl X "InvalidPolynomial" := by rfl) : Names X "InvalidPolynomial" (.ref (C 3)) := ⟨hg, by decide, .inl (by rw [hm]; exact T.m_InvalidPolynomial)⟩
theorem Tx.ok_InvalidPolynomial (T : Tx P w K mg base C f fd) : FnOk P w K mg base CX0 1 (f 29) (fd 29) ["self", "value"] (spI1 K "value") := ok_i1 T.q_InvalidPolynomial sci_InvalidPolynomial rfl
def m_trimmed : MS :=
 (sseq (sset 1 (mL lenD (mcons (rd 0) (mret []))))
 (sseq (swhile (mand (mbl (m2 gtDv (rd 1) (mret (.int 0)))) (mbl (m2 eqDv (m2 ixD (rd 0) (m2 subD (rd 1) (mret (.int 1)))) (mret (.int 0)))))
 (sset 1 (m2 subD (rd 1) (mret (.int 1)))))
 (sret (mval (mL tupleD (mcons (mfz (mcutL (rd 0) none (some (rd 1)))) (mret [])))))))
def F_trimmed : Mir := defM 2 false m_trimmed
theorem ok_trimmed (T : Tx P w K mg base C f fd) : FnG P w K mg base 1 (f 0) (fd 0) ["members"] (spF (tb K C) 1 false F_trimmed) := by
  refine fng (N := N_trimmed) (b := false) (m := m_trimmed) rfl T.p_trimmed sc_trimmed (by decide) ?_
  intro cdv A outer s H E B hr hg hB tk hp
  exact (bv_cons (sv_set (i := 1) sc_trimmed.nd (hB 1 (by decide)) (ev_callB call_len lenD_ok rfl T.n_len bt_len (av_cons (ev_var (i := 0)) av_nil)))
 (bv_cons (sv_while hp (tv_w (wv_and (tv_cmp op_gt cmpI_ok (ev_var (i := 1)) ev_int (nomark _)) (wv_and1 (tv_cmp (op_eqD hr.units) eqDv_ok (ev_ix ix_seq ixD_ok (ev_var (i := 0)) (ev_bin op_sub subD_ok (ev_var (i := 1)) ev_int) (by intro _ _; rfl)) ev_int (nomark _)))))
 (bv_one (sv_set (i := 1) sc_trimmed.nd (hB 1 (by decide)) (ev_bin op_sub subD_ok (ev_var (i := 1)) ev_int))))
 (bv_one (sv_ret (eo_val (ev_callTy call_tuple_of tupleD_ok rfl T.n_tuple bt_tuple (av_cons (ev_fz (eo_cutL rfl (ev_var (i := 0)) pv_none (pv_some (ev_var (i := 1))))) av_nil)))))))
def m_is_integer : MS :=
 (sret (mval (mandV (m1 (isiD "int") (rd 0)) (mnotV (m1 (isiD "bool") (rd 0))))))
def F_is_integer : Mir := defM 1 false m_is_integer
theorem ok_is_integer (T : Tx P w K mg base C f fd) : FnG P w K mg base 1 (f 1) (fd 1) ["value"] (spF (tb K C) 1 false F_is_integer) := by
  refine fng (N := N_is_integer) (b := false) (m := m_is_integer) rfl T.p_is_integer sc_is_integer (by decide) ?_
  intro cdv A outer s H E B hr hg hB tk hp
  exact (bv_one (sv_ret (eo_val (ev_and rfl (ev_isi (n := "int") rfl rfl T.n_isinstance (pe_bltn (v := .ty "int") rfl T.n_int bt_int rfl) (ev_var (i := 0))) (ev_one (ev_not rfl (ev_isi (n := "bool") rfl rfl T.n_isinstance (pe_bltn (v := .ty "bool") rfl T.n_bool bt_bool rfl) (ev_var (i := 0)))))))))
def m_is_polynomial : MS :=
 (sseq (sif (mnot (mtru (m1 (isiD "tuple") (rd 0))))
 (sret (mval (mret (.bl false))))
 sskip)
 (sseq (sfor (iseq (rd 0)) (bname 1)
 (sif (mnot (mtru (mfz (mcall F_is_integer (mcons (rd 1) (mret []))))))
 (sret (mval (mret (.bl false))))
 sskip))
 (sret (mval (morV (m2 eqDv (mL lenD (mcons (rd 0) (mret []))) (mret (.int 0))) (m2 neDv (m2 ixD (rd 0) (m1 negD (mret (.int 1)))) (mret (.int 0))))))))
def F_is_polynomial : Mir := defM 2 false m_is_polynomial
theorem ok_is_polynomial (T : Tx P w K mg base C f fd) : FnG P w K mg base 2 (f 2) (fd 2) ["value"] (spF (tb K C) 1 false F_is_polynomial) := by
  refine fng (N := N_is_polynomial) (b := false) (m := m_is_polynomial) rfl T.p_is_polynomial sc_is_polynomial (by decide) ?_
  intro cdv A outer s H E B hr hg hB tk hp
  exact (bv_cons (sv_if (tv_not (tv_tru rfl (ev_isi (n := "tuple") rfl rfl T.n_isinstance (pe_bltn (v := .ty "tuple") rfl T.n_tuple bt_tuple rfl) (ev_var (i := 0)))))
 (bv_one (sv_ret (eo_val ev_bl)))
 bv_nil)
 (bv_cons (sv_for hp rfl (iv_seq rfl (ev_var (i := 0))) (gv_name (i := 1) sc_is_polynomial.nd (hB 1 (by decide)))
 (bv_one (sv_if (tv_not (tv_tru rfl (ev_fz (eo_call tk (ok_is_integer T) (hr.mono (by decide)) hg rfl T.m_is_integer T.p_is_integer.kp T.b_is_integer (av_cons (ev_var (i := 1)) av_nil)))))
 (bv_one (sv_ret (eo_val ev_bl)))
 bv_nil)))
 (bv_one (sv_ret (eo_val (ev_or rfl (ev_cmp (op_eqD hr.units) eqDv_ok (ev_callB call_len lenD_ok rfl T.n_len bt_len (av_cons (ev_var (i := 0)) av_nil)) ev_int (nomark _)) (ev_one (ev_cmp (op_neD hr.units) neDv_ok (ev_ix ix_seq ixD_ok (ev_var (i := 0)) (ev_un un_neg negD_ok ev_int) (by intro _ _; rfl)) ev_int (nomark _)))))))))
def m_look_at_polynomials : MS :=
 (sfor (iseq (rd 0)) (bname 1)
 (sif (mnot (mtru (mfz (mcall F_is_polynomial (mcons (rd 1) (mret []))))))
 (sraise 3 (mcons (rd 1) (mret [])))
 sskip))
def F_look_at_polynomials : Mir := defM 2 false m_look_at_polynomials
theorem ok_look_at_polynomials (T : Tx P w K mg base C f fd) : FnG P w K mg base 3 (f 3) (fd 3) ["values"] (spF (tb K C) 1 false F_look_at_polynomials) := by
  refine fng (N := N_look_at_polynomials) (b := false) (m := m_look_at_polynomials) rfl T.p_look_at_polynomials sc_look_at_polynomials (by decide) ?_
  intro cdv A outer s H E B hr hg hB tk hp
  exact (bv_one (sv_for hp rfl (iv_seq rfl (ev_var (i := 0))) (gv_name (i := 1) sc_look_at_polynomials.nd (hB 1 (by decide)))
 (bv_one (sv_if (tv_not (tv_tru rfl (ev_fz (eo_call tk (ok_is_polynomial T) (hr.mono (by decide)) hg rfl T.m_is_polynomial T.p_is_polynomial.kp T.b_is_polynomial (av_cons (ev_var (i := 1)) av_nil)))))
 (bv_one (sv_raise1 (c := 3) rfl rfl tk rfl rfl T.o_InvalidPolynomial T.i_InvalidPolynomial T.t_InvalidPolynomial T.f_InvalidPolynomial_0 T.ok_InvalidPolynomial (hr.mono (by decide)) T.bi_InvalidPolynomial rfl T.m_InvalidPolynomial (av_cons (ev_var (i := 1)) av_nil)))
 bv_nil))))
def m_negative : MS :=
 (sret (mval (mL tupleD (mcons (mfz (mcomp [1] (iseq (rd 0)) (bname 1) (mret true) (m1 negD (rd 1)))) (mret [])))))
def F_negative : Mir := defM 2 false m_negative
theorem ok_negative (T : Tx P w K mg base C f fd) : FnG P w K mg base 1 (f 4) (fd 4) ["one"] (spF (tb K C) 1 false F_negative) := by
  refine fng (N := N_negative) (b := false) (m := m_negative) rfl T.p_negative sc_negative (by decide) ?_
  intro cdv A outer s H E B hr hg hB tk hp
  exact (bv_one (sv_ret (eo_val (ev_callTy call_tuple_of tupleD_ok rfl T.n_tuple bt_tuple (av_cons (ev_fz (eo_comp rfl sc_negative.nd (blkOk_by (own := [("member", 1)]) (N := N_negative) (sc := defScope s_negative) (by decide +kernel)) (vs := [1]) rfl (nBs hB [1] (by decide)) (iv_seq rfl (ev_var (i := 0))) (fun _ _ _ _ _ => (gc_name sc_negative.nd (hB 1 (by decide)))) (fun _ _ _ _ _ => ct_nil) (fun _ _ _ _ _ => (ev_un un_neg negD_ok (ev_var (i := 1)))))) av_nil)))))
def m_sum_of : MS :=
 (sseq (ssetO 2 (o2 repD (mfz (oL lstD (mcons (mret (.int 0)) (mret [])))) (mL max2 (mcons (mL lenD (mcons (rd 0) (mret []))) (mcons (mL lenD (mcons (rd 1) (mret []))) (mret []))))))
 (sseq (sfor (ienum (rd 0)) (btup 2 (bcons (bname 3) (bcons (bname 4) bnil)))
 (ssub (pvar 2) (xvar 3) (rd 4)))
 (sseq (sfor (ienum (rd 1)) (btup 2 (bcons (bname 3) (bcons (bname 4) bnil)))
 (ssub (pvar 2) (xvar 3) (m2 addD (mex (xpix (pvar 2) (xvar 3))) (rd 4))))
 (sret (mcall F_trimmed (mcons (mpfz (pvar 2)) (mret [])))))))
def F_sum_of : Mir := defM 5 false m_sum_of
theorem ok_sum_of (T : Tx P w K mg base C f fd) : FnG P w K mg base 2 (f 5) (fd 5) ["one", "other"] (spF (tb K C) 2 false F_sum_of) := by
  refine fng (N := N_sum_of) (b := false) (m := m_sum_of) rfl T.p_sum_of sc_sum_of (by decide) ?_
  intro cdv A outer s H E B hr hg hB tk hp
  exact (bv_cons (sv_setO (i := 2) sc_sum_of.nd (hB 2 (by decide)) (eo_bin op_rep repD_ok (ev_fz (eo_lst (av_cons ev_int av_nil))) (ev_callB (call_max2 rfl) int2_ok rfl T.n_max bt_max (av_cons (ev_callB call_len lenD_ok rfl T.n_len bt_len (av_cons (ev_var (i := 0)) av_nil)) (av_cons (ev_callB call_len lenD_ok rfl T.n_len bt_len (av_cons (ev_var (i := 1)) av_nil)) av_nil)))))
 (bv_cons (sv_for hp rfl (iv_enum rfl rfl T.n_enumerate (ev_var (i := 0))) (gv_tup (n := 2) rfl rfl (gsv_cons (gv_name (i := 3) sc_sum_of.nd (hB 3 (by decide))) (gsv_cons (gv_name (i := 4) sc_sum_of.nd (hB 4 (by decide))) gsv_nil)))
 (bv_one (sv_sub (ev_var (i := 4)) (pl_var (i := 2)) (ex_var (i := 3)))))
 (bv_cons (sv_for hp rfl (iv_enum rfl rfl T.n_enumerate (ev_var (i := 1))) (gv_tup (n := 2) rfl rfl (gsv_cons (gv_name (i := 3) sc_sum_of.nd (hB 3 (by decide))) (gsv_cons (gv_name (i := 4) sc_sum_of.nd (hB 4 (by decide))) gsv_nil)))
 (bv_one (sv_sub (ev_bin op_addA addD_ok (ev_ex (ex_pix rfl (pl_var (i := 2)) (ex_var (i := 3)) (by intro _ _; rfl))) (ev_var (i := 4))) (pl_var (i := 2)) (ex_var (i := 3)))))
 (bv_one (sv_ret (eo_call tk (ok_trimmed T) (hr.mono (by decide)) hg rfl T.m_trimmed T.p_trimmed.kp T.b_trimmed (av_cons (ev_pfz (pl_var (i := 2))) av_nil)))))))
def m_product_of : MS :=
 (sseq (sif (mor (mbl (m2 eqDv (mL lenD (mcons (rd 0) (mret []))) (mret (.int 0)))) (mbl (m2 eqDv (mL lenD (mcons (rd 1) (mret []))) (mret (.int 0)))))
 (sret (mval (mL tupD (mret []))))
 sskip)
 (sseq (ssetO 2 (o2 repD (mfz (oL lstD (mcons (mret (.int 0)) (mret [])))) (m2 subD (m2 addD (mL lenD (mcons (rd 0) (mret []))) (mL lenD (mcons (rd 1) (mret [])))) (mret (.int 1)))))
 (sseq (sfor (ienum (rd 0)) (btup 2 (bcons (bname 3) (bcons (bname 4) bnil)))
 (sfor (ienum (rd 1)) (btup 2 (bcons (bname 5) (bcons (bname 6) bnil)))
 (ssub (pvar 2) (x2 addI (xvar 3) (xvar 5)) (m2 addD (mex (xpix (pvar 2) (x2 addI (xvar 3) (xvar 5)))) (m2 mulD (rd 4) (rd 6))))))
 (sret (mval (mL tupleD (mcons (mpfz (pvar 2)) (mret []))))))))
def F_product_of : Mir := defM 7 false m_product_of
theorem ok_product_of (T : Tx P w K mg base C f fd) : FnG P w K mg base 1 (f 6) (fd 6) ["one", "other"] (spF (tb K C) 2 false F_product_of) := by
  refine fng (N := N_product_of) (b := false) (m := m_product_of) rfl T.p_product_of sc_product_of (by decide) ?_
  intro cdv A outer s H E B hr hg hB tk hp
  exact (bv_cons (sv_if (tv_w (wv_or (tv_cmp (op_eqD hr.units) eqDv_ok (ev_callB call_len lenD_ok rfl T.n_len bt_len (av_cons (ev_var (i := 0)) av_nil)) ev_int (nomark _)) (wv_or1 (tv_cmp (op_eqD hr.units) eqDv_ok (ev_callB call_len lenD_ok rfl T.n_len bt_len (av_cons (ev_var (i := 1)) av_nil)) ev_int (nomark _)))))
 (bv_one (sv_ret (eo_val (ev_tup av_nil))))
 bv_nil)
 (bv_cons (sv_setO (i := 2) sc_product_of.nd (hB 2 (by decide)) (eo_bin op_rep repD_ok (ev_fz (eo_lst (av_cons ev_int av_nil))) (ev_bin op_sub subD_ok (ev_bin op_addA addD_ok (ev_callB call_len lenD_ok rfl T.n_len bt_len (av_cons (ev_var (i := 0)) av_nil)) (ev_callB call_len lenD_ok rfl T.n_len bt_len (av_cons (ev_var (i := 1)) av_nil))) ev_int)))
 (bv_cons (sv_for hp rfl (iv_enum rfl rfl T.n_enumerate (ev_var (i := 0))) (gv_tup (n := 2) rfl rfl (gsv_cons (gv_name (i := 3) sc_product_of.nd (hB 3 (by decide))) (gsv_cons (gv_name (i := 4) sc_product_of.nd (hB 4 (by decide))) gsv_nil)))
 (bv_one (sv_for hp rfl (iv_enum rfl rfl T.n_enumerate (ev_var (i := 1))) (gv_tup (n := 2) rfl rfl (gsv_cons (gv_name (i := 5) sc_product_of.nd (hB 5 (by decide))) (gsv_cons (gv_name (i := 6) sc_product_of.nd (hB 6 (by decide))) gsv_nil)))
 (bv_one (sv_sub (ev_bin op_addA addD_ok (ev_ex (ex_pix rfl (pl_var (i := 2)) (ex_bin op_add addI_ok (ex_var (i := 3)) (ex_var (i := 5))) (by intro _ _; rfl))) (ev_bin op_mulA mulD_ok (ev_var (i := 4)) (ev_var (i := 6)))) (pl_var (i := 2)) (ex_bin op_add addI_ok (ex_var (i := 3)) (ex_var (i := 5))))))))
 (bv_one (sv_ret (eo_val (ev_callTy call_tuple_of tupleD_ok rfl T.n_tuple bt_tuple (av_cons (ev_pfz (pl_var (i := 2))) av_nil))))))))
def m_plus : MS :=
 (sseq (sdrop (mfz (mcall F_look_at_polynomials (mcons (mfz (oL lstD (mcons (rd 0) (mcons (rd 1) (mret []))))) (mret [])))))
 (sret (mcall F_sum_of (mcons (rd 0) (mcons (rd 1) (mret []))))))
def F_plus : Mir := defM 2 false m_plus
theorem ok_plus (T : Tx P w K mg base C f fd) : FnG P w K mg base 4 (f 7) (fd 7) ["one", "other"] (spF (tb K C) 2 false F_plus) := by
  refine fng (N := N_plus) (b := false) (m := m_plus) rfl T.p_plus sc_plus (by decide) ?_
  intro cdv A outer s H E B hr hg hB tk hp
  exact (bv_cons (sv_expr (ev_fz (eo_call tk (ok_look_at_polynomials T) (hr.mono (by decide)) hg rfl T.m_look_at_polynomials T.p_look_at_polynomials.kp T.b_look_at_polynomials (av_cons (ev_fz (eo_lst (av_cons (ev_var (i := 0)) (av_cons (ev_var (i := 1)) av_nil)))) av_nil))))
 (bv_one (sv_ret (eo_call tk (ok_sum_of T) (hr.mono (by decide)) hg rfl T.m_sum_of T.p_sum_of.kp T.b_sum_of (av_cons (ev_var (i := 0)) (av_cons (ev_var (i := 1)) av_nil))))))
def m_less : MS :=
 (sseq (sdrop (mfz (mcall F_look_at_polynomials (mcons (mfz (oL lstD (mcons (rd 0) (mcons (rd 1) (mret []))))) (mret [])))))
 (sret (mcall F_sum_of (mcons (rd 0) (mcons (mfz (mcall F_negative (mcons (rd 1) (mret [])))) (mret []))))))
def F_less : Mir := defM 2 false m_less
theorem ok_less (T : Tx P w K mg base C f fd) : FnG P w K mg base 4 (f 8) (fd 8) ["one", "other"] (spF (tb K C) 2 false F_less) := by
  refine fng (N := N_less) (b := false) (m := m_less) rfl T.p_less sc_less (by decide) ?_
  intro cdv A outer s H E B hr hg hB tk hp
  exact (bv_cons (sv_expr (ev_fz (eo_call tk (ok_look_at_polynomials T) (hr.mono (by decide)) hg rfl T.m_look_at_polynomials T.p_look_at_polynomials.kp T.b_look_at_polynomials (av_cons (ev_fz (eo_lst (av_cons (ev_var (i := 0)) (av_cons (ev_var (i := 1)) av_nil)))) av_nil))))
 (bv_one (sv_ret (eo_call tk (ok_sum_of T) (hr.mono (by decide)) hg rfl T.m_sum_of T.p_sum_of.kp T.b_sum_of (av_cons (ev_var (i := 0)) (av_cons (ev_fz (eo_call tk (ok_negative T) (hr.mono (by decide)) hg rfl T.m_negative T.p_negative.kp T.b_negative (av_cons (ev_var (i := 1)) av_nil))) av_nil))))))
def m_times : MS :=
 (sseq (sdrop (mfz (mcall F_look_at_polynomials (mcons (mfz (oL lstD (mcons (rd 0) (mcons (rd 1) (mret []))))) (mret [])))))
 (sret (mcall F_product_of (mcons (rd 0) (mcons (rd 1) (mret []))))))
def F_times : Mir := defM 2 false m_times
theorem ok_times (T : Tx P w K mg base C f fd) : FnG P w K mg base 4 (f 9) (fd 9) ["one", "other"] (spF (tb K C) 2 false F_times) := by
  refine fng (N := N_times) (b := false) (m := m_times) rfl T.p_times sc_times (by decide) ?_
  intro cdv A outer s H E B hr hg hB tk hp
  exact (bv_cons (sv_expr (ev_fz (eo_call tk (ok_look_at_polynomials T) (hr.mono (by decide)) hg rfl T.m_look_at_polynomials T.p_look_at_polynomials.kp T.b_look_at_polynomials (av_cons (ev_fz (eo_lst (av_cons (ev_var (i := 0)) (av_cons (ev_var (i := 1)) av_nil)))) av_nil))))
 (bv_one (sv_ret (eo_call tk (ok_product_of T) (hr.mono (by decide)) hg rfl T.m_product_of T.p_product_of.kp T.b_product_of (av_cons (ev_var (i := 0)) (av_cons (ev_var (i := 1)) av_nil))))))
def m_value_at : MS :=
 (sseq (sdrop (mfz (mcall F_look_at_polynomials (mcons (mfz (oL lstD (mcons (rd 0) (mret [])))) (mret [])))))
 (sseq (sif (mnot (mtru (mfz (mcall F_is_integer (mcons (rd 1) (mret []))))))
 (sraise 1 (mcons (rd 1) (mret [])))
 sskip)
 (sseq (sset 2 (mret (.int 0)))
 (sseq (sfor (iseq (m1 revT (rd 0))) (bname 3)
 (sset 2 (m2 addD (m2 mulD (rd 2) (rd 1)) (rd 3))))
 (sret (mval (rd 2)))))))
def F_value_at : Mir := defM 4 false m_value_at
theorem ok_value_at (T : Tx P w K mg base C f fd) : FnG P w K mg base 4 (f 10) (fd 10) ["one", "number"] (spF (tb K C) 2 false F_value_at) := by
  refine fng (N := N_value_at) (b := false) (m := m_value_at) rfl T.p_value_at sc_value_at (by decide) ?_
  intro cdv A outer s H E B hr hg hB tk hp
  exact (bv_cons (sv_expr (ev_fz (eo_call tk (ok_look_at_polynomials T) (hr.mono (by decide)) hg rfl T.m_look_at_polynomials T.p_look_at_polynomials.kp T.b_look_at_polynomials (av_cons (ev_fz (eo_lst (av_cons (ev_var (i := 0)) av_nil))) av_nil))))
 (bv_cons (sv_if (tv_not (tv_tru rfl (ev_fz (eo_call tk (ok_is_integer T) (hr.mono (by decide)) hg rfl T.m_is_integer T.p_is_integer.kp T.b_is_integer (av_cons (ev_var (i := 1)) av_nil)))))
 (bv_one (sv_raise1 (c := 1) rfl rfl tk rfl rfl T.o_InvalidNumber T.i_InvalidNumber T.t_InvalidNumber T.f_InvalidNumber_0 T.ok_InvalidNumber (hr.mono (by decide)) T.bi_InvalidNumber rfl T.m_InvalidNumber (av_cons (ev_var (i := 1)) av_nil)))
 bv_nil)
 (bv_cons (sv_set (i := 2) sc_value_at.nd (hB 2 (by decide)) ev_int)
 (bv_cons (sv_for hp rfl (iv_seq rfl (ev_revT rfl (ev_var (i := 0)))) (gv_name (i := 3) sc_value_at.nd (hB 3 (by decide)))
 (bv_one (sv_set (i := 2) sc_value_at.nd (hB 2 (by decide)) (ev_bin op_addA addD_ok (ev_bin op_mulA mulD_ok (ev_var (i := 2)) (ev_var (i := 1))) (ev_var (i := 3))))))
 (bv_one (sv_ret (eo_val (ev_var (i := 2)))))))))
def m__law_deck : MS :=
 (sret (oL lstD (mcons (mfz (mcomp [1] (iseq (mfz (mcutL (rd 0) none (some (mret (.int 63)))))) (bname 1) (mret true) (mL intD (mcons (rd 1) (mret []))))) (mcons (mret (.int 0)) (mcons (mret (.int 0)) (mcons (mret (.int 5)) (mret [])))))))
def F__law_deck : Mir := defM 2 false m__law_deck
theorem ok__law_deck (T : Tx P w K mg base C f fd) : FnG P w K mg base 1 (f 11) (fd 11) ["script"] (spF (tb K C) 1 false F__law_deck) := by
  refine fng (N := N__law_deck) (b := false) (m := m__law_deck) rfl T.p__law_deck sc__law_deck (by decide) ?_
  intro cdv A outer s H E B hr hg hB tk hp
  exact (bv_one (sv_ret (eo_lst (av_cons (ev_fz (eo_comp rfl sc__law_deck.nd (blkOk_by (own := [("cell", 1)]) (N := N__law_deck) (sc := defScope s__law_deck) (by decide +kernel)) (vs := [1]) rfl (nBs hB [1] (by decide)) (iv_seq rfl (ev_fz (eo_cutL rfl (ev_var (i := 0)) pv_none (pv_some ev_int)))) (fun _ _ _ _ _ => (gc_name sc__law_deck.nd (hB 1 (by decide)))) (fun _ _ _ _ _ => ct_nil) (fun _ _ _ _ _ => (ev_callTy call_int1 intD_ok rfl T.n_int bt_int (av_cons (ev_var (i := 1)) av_nil))))) (av_cons ev_int (av_cons ev_int (av_cons ev_int av_nil)))))))
def m__law_draw : MS :=
 (sseq (sif (mand (mbl (m2 eqDv (mex (xpix (pvar 0) (fun _ => some (.int 2)))) (mret (.int 0)))) (mbl (m2 ltDv (mex (xpix (pvar 0) (fun _ => some (.int 1)))) (mL lenD (mcons (mex (xpix (pvar 0) (fun _ => some (.int 0)))) (mret []))))))
 (sseq (sset 2 (m2 ixD (mex (xpix (pvar 0) (fun _ => some (.int 0)))) (mex (xpix (pvar 0) (fun _ => some (.int 1))))))
 (sseq (ssub (pvar 0) (fun _ => some (.int 1)) (m2 addD (mex (xpix (pvar 0) (fun _ => some (.int 1)))) (mret (.int 1))))
 (sseq (ssub (pvar 0) (fun _ => some (.int 3)) (m2 modD (mL intD (mcons (m2 addD (m2 addD (m2 addD (m2 mulD (mex (xpix (pvar 0) (fun _ => some (.int 3)))) (mret (.int 40014))) (m2 mulD (m2 modD (mL intD (mcons (mL absD (mcons (rd 2) (mret []))) (mret []))) (mret (.int 2147483563))) (mret (.int 2)))) (mL intD (mcons (m2 ltDv (rd 2) (mret (.int 0))) (mret [])))) (mret (.int 1))) (mret []))) (mret (.int 2147483563))))
 (sif (mbl (m2 geDv (rd 2) (m2 powD (mret (.int 10)) (mret (.int 18)))))
 (ssub (pvar 0) (fun _ => some (.int 2)) (m2 modD (mL intD (mcons (rd 2) (mret []))) (m2 mulD (m2 powD (mret (.int 10)) (mret (.int 60))) (m2 powD (mret (.int 10)) (mret (.int 60))))))
 sskip))))
 sskip)
 (sseq (sif (mbl (m2 gtDv (mex (xpix (pvar 0) (fun _ => some (.int 2)))) (mret (.int 0))))
 (sseq (sset 3 (m2 modD (mL intD (mcons (mex (xpix (pvar 0) (fun _ => some (.int 2)))) (mret []))) (rd 1)))
 (sseq (ssub (pvar 0) (fun _ => some (.int 2)) (m2 divD (mex (xpix (pvar 0) (fun _ => some (.int 2)))) (rd 1)))
 (sret (mval (rd 3)))))
 sskip)
 (sseq (ssub (pvar 0) (fun _ => some (.int 3)) (m2 modD (mL intD (mcons (m2 addD (m2 mulD (mex (xpix (pvar 0) (fun _ => some (.int 3)))) (mret (.int 40692))) (mret (.int 3791))) (mret []))) (mret (.int 2147483399))))
 (sseq (sset 4 (m2 modD (mL intD (mcons (m2 addD (m2 addD (m2 mulD (mex (xpix (pvar 0) (fun _ => some (.int 3)))) (mex (xpix (pvar 0) (fun _ => some (.int 3))))) (m2 divD (mex (xpix (pvar 0) (fun _ => some (.int 3)))) (mret (.int 13)))) (m2 mulD (mex (xpix (pvar 0) (fun _ => some (.int 1)))) (mret (.int 69621)))) (mret []))) (mret (.int 2147483647))))
 (sret (mval (m2 modD (mL intD (mcons (m2 divD (rd 4) (mret (.int 11))) (mret []))) (rd 1))))))))
def F__law_draw : Mir := defM 5 true m__law_draw
theorem ok__law_draw (T : Tx P w K mg base C f fd) : FnG P w K mg base 1 (f 12) (fd 12) ["deck", "many"] (spF (tb K C) 2 true F__law_draw) := by
  refine fng (N := N__law_draw) (b := true) (m := m__law_draw) rfl T.p__law_draw sc__law_draw (by decide) ?_
  intro cdv A outer s H E B hr hg hB tk hp
  exact (bv_cons (sv_if (tv_w (wv_and (tv_cmp (op_eqD hr.units) eqDv_ok (ev_ex (ex_pix rfl (pl_var (i := 0)) ex_int (by intro _ _; rfl))) ev_int (nomark _)) (wv_and1 (tv_cmp op_lt cmpI_ok (ev_ex (ex_pix rfl (pl_var (i := 0)) ex_int (by intro _ _; rfl))) (ev_callB call_len lenD_ok rfl T.n_len bt_len (av_cons (ev_ex (ex_pix rfl (pl_var (i := 0)) ex_int (by intro _ _; rfl))) av_nil)) (nomark _)))))
 (bv_cons (sv_set (i := 2) sc__law_draw.nd (hB 2 (by decide)) (ev_ix ix_seq ixD_ok (ev_ex (ex_pix rfl (pl_var (i := 0)) ex_int (by intro _ _; rfl))) (ev_ex (ex_pix rfl (pl_var (i := 0)) ex_int (by intro _ _; rfl))) (by intro _ _; rfl)))
 (bv_cons (sv_sub (ev_bin op_addA addD_ok (ev_ex (ex_pix rfl (pl_var (i := 0)) ex_int (by intro _ _; rfl))) ev_int) (pl_var (i := 0)) ex_int)
 (bv_cons (sv_sub (ev_bin op_modN modD_ok (ev_callTy call_int1 intD_ok rfl T.n_int bt_int (av_cons (ev_bin op_addA addD_ok (ev_bin op_addA addD_ok (ev_bin op_addA addD_ok (ev_bin op_mulA mulD_ok (ev_ex (ex_pix rfl (pl_var (i := 0)) ex_int (by intro _ _; rfl))) ev_int) (ev_bin op_mulA mulD_ok (ev_bin op_modN modD_ok (ev_callTy call_int1 intD_ok rfl T.n_int bt_int (av_cons (ev_callB call_abs absD_ok rfl T.n_abs bt_abs (av_cons (ev_var (i := 2)) av_nil)) av_nil)) ev_int) ev_int)) (ev_callTy call_int1 intD_ok rfl T.n_int bt_int (av_cons (ev_cmp op_lt cmpI_ok (ev_var (i := 2)) ev_int (nomark _)) av_nil))) ev_int) av_nil)) ev_int) (pl_var (i := 0)) ex_int)
 (bv_one (sv_if (tv_cmp op_ge cmpI_ok (ev_var (i := 2)) (ev_bin op_pow powD_ok ev_int ev_int) (nomark _))
 (bv_one (sv_sub (ev_bin op_modN modD_ok (ev_callTy call_int1 intD_ok rfl T.n_int bt_int (av_cons (ev_var (i := 2)) av_nil)) (ev_bin op_mulA mulD_ok (ev_bin op_pow powD_ok ev_int ev_int) (ev_bin op_pow powD_ok ev_int ev_int))) (pl_var (i := 0)) ex_int))
 bv_nil)))))
 bv_nil)
 (bv_cons (sv_if (tv_cmp op_gt cmpI_ok (ev_ex (ex_pix rfl (pl_var (i := 0)) ex_int (by intro _ _; rfl))) ev_int (nomark _))
 (bv_cons (sv_set (i := 3) sc__law_draw.nd (hB 3 (by decide)) (ev_bin op_modN modD_ok (ev_callTy call_int1 intD_ok rfl T.n_int bt_int (av_cons (ev_ex (ex_pix rfl (pl_var (i := 0)) ex_int (by intro _ _; rfl))) av_nil)) (ev_var (i := 1))))
 (bv_cons (sv_sub (ev_bin op_divA divD_ok (ev_ex (ex_pix rfl (pl_var (i := 0)) ex_int (by intro _ _; rfl))) (ev_var (i := 1))) (pl_var (i := 0)) ex_int)
 (bv_one (sv_ret (eo_val (ev_var (i := 3)))))))
 bv_nil)
 (bv_cons (sv_sub (ev_bin op_modN modD_ok (ev_callTy call_int1 intD_ok rfl T.n_int bt_int (av_cons (ev_bin op_addA addD_ok (ev_bin op_mulA mulD_ok (ev_ex (ex_pix rfl (pl_var (i := 0)) ex_int (by intro _ _; rfl))) ev_int) ev_int) av_nil)) ev_int) (pl_var (i := 0)) ex_int)
 (bv_cons (sv_set (i := 4) sc__law_draw.nd (hB 4 (by decide)) (ev_bin op_modN modD_ok (ev_callTy call_int1 intD_ok rfl T.n_int bt_int (av_cons (ev_bin op_addA addD_ok (ev_bin op_addA addD_ok (ev_bin op_mulA mulD_ok (ev_ex (ex_pix rfl (pl_var (i := 0)) ex_int (by intro _ _; rfl))) (ev_ex (ex_pix rfl (pl_var (i := 0)) ex_int (by intro _ _; rfl)))) (ev_bin op_divA divD_ok (ev_ex (ex_pix rfl (pl_var (i := 0)) ex_int (by intro _ _; rfl))) ev_int)) (ev_bin op_mulA mulD_ok (ev_ex (ex_pix rfl (pl_var (i := 0)) ex_int (by intro _ _; rfl))) ev_int)) av_nil)) ev_int))
 (bv_one (sv_ret (eo_val (ev_bin op_modN modD_ok (ev_callTy call_int1 intD_ok rfl T.n_int bt_int (av_cons (ev_bin op_divA divD_ok (ev_var (i := 4)) ev_int) av_nil)) (ev_var (i := 1))))))))))
def m__law_same (rc : Mir) : MS :=
 (sseq (sif (mtru (m1 (isiD "tuple") (rd 1)))
 (sseq (sif (mor (mnot (mtru (m1 (isiD "tuple") (rd 0)))) (mbl (m2 neDv (mL lenD (mcons (rd 0) (mret []))) (mL lenD (mcons (rd 1) (mret []))))))
 (sret (mval (mret (.bl false))))
 sskip)
 (sret (mval (m2 (inD true) (mret (.bl false)) (mfz (mcomp [2] (irng1 (mL lenD (mcons (rd 1) (mret [])))) (bname 2) (mret true) (mfz (mcall rc (mcons (m2 ixD (rd 0) (rd 2)) (mcons (m2 ixD (rd 1) (rd 2)) (mret [])))))))))))
 sskip)
 (sseq (sif (mor (mbl (m2 isD (rd 1) (mret .non))) (mbl (m2 isD (rd 0) (mret .non))))
 (sret (mval (mandV (m2 isD (rd 1) (mret .non)) (m2 isD (rd 0) (mret .non)))))
 sskip)
 (sseq (sif (mor (mtru (m1 (isiD "bool") (rd 1))) (mtru (m1 (isiD "bool") (rd 0))))
 (sret (mval (mandV (m1 (isiD "bool") (rd 1)) (mandV (m1 (isiD "bool") (rd 0)) (m2 eqDv (rd 0) (rd 1))))))
 sskip)
 (sseq (sif (mtru (m1 (isiD "str") (rd 1)))
 (sret (mval (mandV (m1 (isiD "str") (rd 0)) (m2 eqDv (rd 0) (rd 1)))))
 sskip)
 (sret (mval (mandV (m1 (isiD "int") (rd 0)) (m2 eqDv (rd 0) (rd 1)))))))))
def F__law_same : Nat → Mir
  | 0 => fun _ => .stuck
  | n + 1 => defM 3 false (m__law_same (F__law_same n))
theorem ok__law_same (T : Tx P w K mg base C f fd) : ∀ n : Nat, FnG P w K mg base (1 + n) (f 13) (fd 13) ["told", "due"] (spF (tb K C) 2 false (F__law_same n))
  | 0 => fn_stuck
  | n + 1 => by
    have ih := ok__law_same T n
    revert ih
    show _ → FnG P w K mg base (1 + n + 1) (f 13) (fd 13) ["told", "due"] (spF (tb K C) 2 false (defM 3 false (m__law_same (F__law_same n))))
    generalize F__law_same n = rc
    intro ih
    refine fng (N := N__law_same) (b := false) (m := m__law_same rc) rfl T.p__law_same sc__law_same (by decide) ?_
    intro cdv A outer s H E B hr hg hB tk hp
    exact (bv_cons (sv_if (tv_tru rfl (ev_isi (n := "tuple") rfl rfl T.n_isinstance (pe_bltn (v := .ty "tuple") rfl T.n_tuple bt_tuple rfl) (ev_var (i := 1))))
 (bv_cons (sv_if (tv_w (wv_or (tv_not (tv_tru rfl (ev_isi (n := "tuple") rfl rfl T.n_isinstance (pe_bltn (v := .ty "tuple") rfl T.n_tuple bt_tuple rfl) (ev_var (i := 0))))) (wv_or1 (tv_cmp (op_neD hr.units) neDv_ok (ev_callB call_len lenD_ok rfl T.n_len bt_len (av_cons (ev_var (i := 0)) av_nil)) (ev_callB call_len lenD_ok rfl T.n_len bt_len (av_cons (ev_var (i := 1)) av_nil)) (nomark _)))))
 (bv_one (sv_ret (eo_val ev_bl)))
 bv_nil)
 (bv_one (sv_ret (eo_val (ev_cmp op_notIn_seq inD_ok ev_bl (ev_fz (eo_comp rfl sc__law_same.nd (blkOk_by (own := [("n", 2)]) (N := N__law_same) (sc := defScope s__law_same) (by decide +kernel)) (vs := [2]) rfl (nBs hB [2] (by decide)) (iv_rng1 rfl T.n_range (ev_callB call_len lenD_ok rfl T.n_len bt_len (av_cons (ev_var (i := 1)) av_nil))) (fun _ _ _ _ _ => (gc_name sc__law_same.nd (hB 2 (by decide)))) (fun _ _ _ _ _ => ct_nil) (fun _ _ _ _ _ => (ev_fz (eo_call takes0 ih (hr.mono (by omega)) hg rfl T.m__law_same T.p__law_same.kp T.b__law_same (av_cons (ev_ix ix_seq ixD_ok (ev_var (i := 0)) (ev_var (i := 2)) (by intro _ _; rfl)) (av_cons (ev_ix ix_seq ixD_ok (ev_var (i := 1)) (ev_var (i := 2)) (by intro _ _; rfl)) av_nil))))))) (by rfl))))))
 bv_nil)
 (bv_cons (sv_if (tv_w (wv_or (tv_cmp op_isA isD_ok (ev_var (i := 1)) ev_non (nomark _)) (wv_or1 (tv_cmp op_isA isD_ok (ev_var (i := 0)) ev_non (nomark _)))))
 (bv_one (sv_ret (eo_val (ev_and rfl (ev_cmp op_isA isD_ok (ev_var (i := 1)) ev_non (nomark _)) (ev_one (ev_cmp op_isA isD_ok (ev_var (i := 0)) ev_non (nomark _)))))))
 bv_nil)
 (bv_cons (sv_if (tv_w (wv_or (tv_tru rfl (ev_isi (n := "bool") rfl rfl T.n_isinstance (pe_bltn (v := .ty "bool") rfl T.n_bool bt_bool rfl) (ev_var (i := 1)))) (wv_or1 (tv_tru rfl (ev_isi (n := "bool") rfl rfl T.n_isinstance (pe_bltn (v := .ty "bool") rfl T.n_bool bt_bool rfl) (ev_var (i := 0)))))))
 (bv_one (sv_ret (eo_val (ev_and rfl (ev_isi (n := "bool") rfl rfl T.n_isinstance (pe_bltn (v := .ty "bool") rfl T.n_bool bt_bool rfl) (ev_var (i := 1))) (ev_and rfl (ev_isi (n := "bool") rfl rfl T.n_isinstance (pe_bltn (v := .ty "bool") rfl T.n_bool bt_bool rfl) (ev_var (i := 0))) (ev_one (ev_cmp (op_eqD hr.units) eqDv_ok (ev_var (i := 0)) (ev_var (i := 1)) (nomark _))))))))
 bv_nil)
 (bv_cons (sv_if (tv_tru rfl (ev_isi (n := "str") rfl rfl T.n_isinstance (pe_bltn (v := .ty "str") rfl T.n_str bt_str rfl) (ev_var (i := 1))))
 (bv_one (sv_ret (eo_val (ev_and rfl (ev_isi (n := "str") rfl rfl T.n_isinstance (pe_bltn (v := .ty "str") rfl T.n_str bt_str rfl) (ev_var (i := 0))) (ev_one (ev_cmp (op_eqD hr.units) eqDv_ok (ev_var (i := 0)) (ev_var (i := 1)) (nomark _)))))))
 bv_nil)
 (bv_one (sv_ret (eo_val (ev_and rfl (ev_isi (n := "int") rfl rfl T.n_isinstance (pe_bltn (v := .ty "int") rfl T.n_int bt_int rfl) (ev_var (i := 0))) (ev_one (ev_cmp (op_eqD hr.units) eqDv_ok (ev_var (i := 0)) (ev_var (i := 1)) (nomark _)))))))))))
def m__law_trim : MS :=
 (sseq (ssetO 0 (oL listD (mcons (mpfz (pvar 0)) (mret []))))
 (sseq (sfor (irng1 (mex (xplen (pvar 0)))) (bname 1)
 (sseq (sif (mbl (m2 neDv (mex (xpix (pvar 0) (x1 negD (fun _ => some (.int 1))))) (mret (.int 0))))
 .bk
 sskip)
 (sdrop (mlm gPop (pvar 0) (fun _ => some [])))))
 (sret (mval (mL tupleD (mcons (mpfz (pvar 0)) (mret [])))))))
def F__law_trim : Mir := defM 2 false m__law_trim
theorem ok__law_trim (T : Tx P w K mg base C f fd) : FnG P w K mg base 1 (f 14) (fd 14) ["row"] (spF (tb K C) 1 false F__law_trim) := by
  refine fng (N := N__law_trim) (b := false) (m := m__law_trim) rfl T.p__law_trim sc__law_trim (by decide) ?_
  intro cdv A outer s H E B hr hg hB tk hp
  exact (bv_cons (sv_setO (i := 0) sc__law_trim.nd (hB 0 (by decide)) (eo_callTy call_list_of listD_ok rfl T.n_list bt_list (av_cons (ev_pfz (pl_var (i := 0))) av_nil)))
 (bv_cons (sv_for hp rfl (iv_rng1 rfl T.n_range (ev_ex (ex_plen rfl rfl T.n_len (pl_var (i := 0))))) (gv_name (i := 1) sc__law_trim.nd (hB 1 (by decide)))
 (bv_cons (sv_if (tv_cmp (op_neD hr.units) neDv_ok (ev_ex (ex_pix rfl (pl_var (i := 0)) (ex_un un_neg negX ex_int) (by intro _ _; rfl))) ev_int (nomark _))
 (bv_one sv_break)
 bv_nil)
 (bv_one (sv_expr (ev_lm0 PySem.F.slot_list_pop PySem.F.type_list_pop mt_pop gPop_ok (pl_var (i := 0)))))))
 (bv_one (sv_ret (eo_val (ev_callTy call_tuple_of tupleD_ok rfl T.n_tuple bt_tuple (av_cons (ev_pfz (pl_var (i := 0))) av_nil)))))))
def m__law_plus : MS :=
 (sseq (sset 3 (mL max2 (mcons (mL lenD (mcons (rd 0) (mret []))) (mcons (mL lenD (mcons (rd 1) (mret []))) (mret [])))))
 (sseq (sset 4 (mfz (o2 catD (mfz (oL listD (mcons (rd 0) (mret [])))) (mfz (o2 repD (mfz (oL lstD (mcons (mret (.int 0)) (mret [])))) (m2 subD (rd 3) (mL lenD (mcons (rd 0) (mret [])))))))))
 (sseq (sset 5 (mfz (o2 catD (mfz (oL listD (mcons (rd 1) (mret [])))) (mfz (o2 repD (mfz (oL lstD (mcons (mret (.int 0)) (mret [])))) (m2 subD (rd 3) (mL lenD (mcons (rd 1) (mret [])))))))))
 (sret (mcall F__law_trim (mcons (mfz (mcomp [6] (irng1 (rd 3)) (bname 6) (mret true) (m2 addD (m2 ixD (rd 4) (rd 6)) (m2 mulD (rd 2) (m2 ixD (rd 5) (rd 6)))))) (mret [])))))))
def F__law_plus : Mir := defM 7 false m__law_plus
theorem ok__law_plus (T : Tx P w K mg base C f fd) : FnG P w K mg base 2 (f 15) (fd 15) ["one", "other", "sign"] (spF (tb K C) 3 false F__law_plus) := by
  refine fng (N := N__law_plus) (b := false) (m := m__law_plus) rfl T.p__law_plus sc__law_plus (by decide) ?_
  intro cdv A outer s H E B hr hg hB tk hp
  exact (bv_cons (sv_set (i := 3) sc__law_plus.nd (hB 3 (by decide)) (ev_callB (call_max2 rfl) int2_ok rfl T.n_max bt_max (av_cons (ev_callB call_len lenD_ok rfl T.n_len bt_len (av_cons (ev_var (i := 0)) av_nil)) (av_cons (ev_callB call_len lenD_ok rfl T.n_len bt_len (av_cons (ev_var (i := 1)) av_nil)) av_nil))))
 (bv_cons (sv_set (i := 4) sc__law_plus.nd (hB 4 (by decide)) (ev_fz (eo_bin op_cat catD_ok (ev_fz (eo_callTy call_list_of listD_ok rfl T.n_list bt_list (av_cons (ev_var (i := 0)) av_nil))) (ev_fz (eo_bin op_rep repD_ok (ev_fz (eo_lst (av_cons ev_int av_nil))) (ev_bin op_sub subD_ok (ev_var (i := 3)) (ev_callB call_len lenD_ok rfl T.n_len bt_len (av_cons (ev_var (i := 0)) av_nil))))))))
 (bv_cons (sv_set (i := 5) sc__law_plus.nd (hB 5 (by decide)) (ev_fz (eo_bin op_cat catD_ok (ev_fz (eo_callTy call_list_of listD_ok rfl T.n_list bt_list (av_cons (ev_var (i := 1)) av_nil))) (ev_fz (eo_bin op_rep repD_ok (ev_fz (eo_lst (av_cons ev_int av_nil))) (ev_bin op_sub subD_ok (ev_var (i := 3)) (ev_callB call_len lenD_ok rfl T.n_len bt_len (av_cons (ev_var (i := 1)) av_nil))))))))
 (bv_one (sv_ret (eo_call tk (ok__law_trim T) (hr.mono (by decide)) hg rfl T.m__law_trim T.p__law_trim.kp T.b__law_trim (av_cons (ev_fz (eo_comp rfl sc__law_plus.nd (blkOk_by (own := [("n", 6)]) (N := N__law_plus) (sc := defScope s__law_plus) (by decide +kernel)) (vs := [6]) rfl (nBs hB [6] (by decide)) (iv_rng1 rfl T.n_range (ev_var (i := 3))) (fun _ _ _ _ _ => (gc_name sc__law_plus.nd (hB 6 (by decide)))) (fun _ _ _ _ _ => ct_nil) (fun _ _ _ _ _ => (ev_bin op_addA addD_ok (ev_ix ix_seq ixD_ok (ev_var (i := 4)) (ev_var (i := 6)) (by intro _ _; rfl)) (ev_bin op_mulA mulD_ok (ev_var (i := 2)) (ev_ix ix_seq ixD_ok (ev_var (i := 5)) (ev_var (i := 6)) (by intro _ _; rfl))))))) av_nil)))))))
def m__law_times : MS :=
 (sseq (sif (mor (mbl (m2 eqDv (rd 0) (mL tupD (mret [])))) (mbl (m2 eqDv (rd 1) (mL tupD (mret [])))))
 (sret (mval (mL tupD (mret []))))
 sskip)
 (sseq (ssetO 2 (o2 repD (mfz (oL lstD (mcons (mret (.int 0)) (mret [])))) (m2 subD (m2 addD (mL lenD (mcons (rd 0) (mret []))) (mL lenD (mcons (rd 1) (mret [])))) (mret (.int 1)))))
 (sseq (sfor (irng1 (mL lenD (mcons (rd 0) (mret [])))) (bname 3)
 (sfor (irng1 (mL lenD (mcons (rd 1) (mret [])))) (bname 4)
 (ssub (pvar 2) (x2 addI (xvar 3) (xvar 4)) (m2 addD (mex (xpix (pvar 2) (x2 addI (xvar 3) (xvar 4)))) (m2 mulD (m2 ixD (rd 0) (rd 3)) (m2 ixD (rd 1) (rd 4)))))))
 (sret (mval (mL tupleD (mcons (mpfz (pvar 2)) (mret []))))))))
def F__law_times : Mir := defM 5 false m__law_times
theorem ok__law_times (T : Tx P w K mg base C f fd) : FnG P w K mg base 1 (f 16) (fd 16) ["one", "other"] (spF (tb K C) 2 false F__law_times) := by
  refine fng (N := N__law_times) (b := false) (m := m__law_times) rfl T.p__law_times sc__law_times (by decide) ?_
  intro cdv A outer s H E B hr hg hB tk hp
  exact (bv_cons (sv_if (tv_w (wv_or (tv_cmp (op_eqD hr.units) eqDv_ok (ev_var (i := 0)) (ev_tup av_nil) (nomark _)) (wv_or1 (tv_cmp (op_eqD hr.units) eqDv_ok (ev_var (i := 1)) (ev_tup av_nil) (nomark _)))))
 (bv_one (sv_ret (eo_val (ev_tup av_nil))))
 bv_nil)
 (bv_cons (sv_setO (i := 2) sc__law_times.nd (hB 2 (by decide)) (eo_bin op_rep repD_ok (ev_fz (eo_lst (av_cons ev_int av_nil))) (ev_bin op_sub subD_ok (ev_bin op_addA addD_ok (ev_callB call_len lenD_ok rfl T.n_len bt_len (av_cons (ev_var (i := 0)) av_nil)) (ev_callB call_len lenD_ok rfl T.n_len bt_len (av_cons (ev_var (i := 1)) av_nil))) ev_int)))
 (bv_cons (sv_for hp rfl (iv_rng1 rfl T.n_range (ev_callB call_len lenD_ok rfl T.n_len bt_len (av_cons (ev_var (i := 0)) av_nil))) (gv_name (i := 3) sc__law_times.nd (hB 3 (by decide)))
 (bv_one (sv_for hp rfl (iv_rng1 rfl T.n_range (ev_callB call_len lenD_ok rfl T.n_len bt_len (av_cons (ev_var (i := 1)) av_nil))) (gv_name (i := 4) sc__law_times.nd (hB 4 (by decide)))
 (bv_one (sv_sub (ev_bin op_addA addD_ok (ev_ex (ex_pix rfl (pl_var (i := 2)) (ex_bin op_add addI_ok (ex_var (i := 3)) (ex_var (i := 4))) (by intro _ _; rfl))) (ev_bin op_mulA mulD_ok (ev_ix ix_seq ixD_ok (ev_var (i := 0)) (ev_var (i := 3)) (by intro _ _; rfl)) (ev_ix ix_seq ixD_ok (ev_var (i := 1)) (ev_var (i := 4)) (by intro _ _; rfl)))) (pl_var (i := 2)) (ex_bin op_add addI_ok (ex_var (i := 3)) (ex_var (i := 4))))))))
 (bv_one (sv_ret (eo_val (ev_callTy call_tuple_of tupleD_ok rfl T.n_tuple bt_tuple (av_cons (ev_pfz (pl_var (i := 2))) av_nil))))))))
def m__law_figures : MS :=
 (sseq (sset 2 (mret (.int 0)))
 (sseq (sfor (irng1 (m2 addD (mret (.int 1)) (mfz (mcallR F__law_draw 0 (mcons (rd 1) (mret [])))))) (bname 3)
 (sset 2 (m2 addD (m2 mulD (rd 2) (mret (.int 10))) (mfz (mcallR F__law_draw 0 (mcons (mret (.int 10)) (mret [])))))))
 (sret (mval (mif (mbl (m2 eqDv (mfz (mcallR F__law_draw 0 (mcons (mret (.int 2)) (mret [])))) (mret (.int 0)))) (rd 2) (m1 negD (rd 2)))))))
def F__law_figures : Mir := defM 4 true m__law_figures
theorem ok__law_figures (T : Tx P w K mg base C f fd) : FnG P w K mg base 2 (f 17) (fd 17) ["deck", "most"] (spF (tb K C) 2 true F__law_figures) := by
  refine fng (N := N__law_figures) (b := true) (m := m__law_figures) rfl T.p__law_figures sc__law_figures (by decide) ?_
  intro cdv A outer s H E B hr hg hB tk hp
  exact (bv_cons (sv_set (i := 2) sc__law_figures.nd (hB 2 (by decide)) ev_int)
 (bv_cons (sv_for hp rfl (iv_rng1 rfl T.n_range (ev_bin op_addA addD_ok ev_int (ev_fz (eo_callR (i := 0) tk (ok__law_draw T) (hr.mono (by decide)) hg rfl T.m__law_draw T.p__law_draw.kp T.b__law_draw (av_cons (ev_var (i := 1)) av_nil))))) (gv_name (i := 3) sc__law_figures.nd (hB 3 (by decide)))
 (bv_one (sv_set (i := 2) sc__law_figures.nd (hB 2 (by decide)) (ev_bin op_addA addD_ok (ev_bin op_mulA mulD_ok (ev_var (i := 2)) ev_int) (ev_fz (eo_callR (i := 0) tk (ok__law_draw T) (hr.mono (by decide)) hg rfl T.m__law_draw T.p__law_draw.kp T.b__law_draw (av_cons ev_int av_nil)))))))
 (bv_one (sv_ret (eo_val (ev_if (tv_cmp (op_eqD hr.units) eqDv_ok (ev_fz (eo_callR (i := 0) tk (ok__law_draw T) (hr.mono (by decide)) hg rfl T.m__law_draw T.p__law_draw.kp T.b__law_draw (av_cons ev_int av_nil))) ev_int (nomark _)) (ev_var (i := 2)) (ev_un un_neg negD_ok (ev_var (i := 2)))))))))
def m__law_drawn : MS :=
 (sseq (after (mcomp [4] (irng1 (mfz (mcallR F__law_draw 0 (mcons (m2 addD (rd 1) (mret (.int 1))) (mret []))))) (bname 4) (mret true) (mif (mbl (m2 gtDv (mfz (mcallR F__law_draw 0 (mcons (mret (.int 4)) (mret [])))) (mret (.int 0)))) (mfz (mcallR F__law_figures 0 (mcons (rd 2) (mret [])))) (mret (.int 0)))) fun o ρ => .nx (ρ.set 3 (some ((fun o => .val o.fz) o))))
 (sret (mcall F__law_trim (mcons (rd 3) (mret [])))))
def F__law_drawn : Mir := defM 5 true m__law_drawn
theorem ok__law_drawn (T : Tx P w K mg base C f fd) : FnG P w K mg base 3 (f 18) (fd 18) ["deck", "most", "figures"] (spF (tb K C) 3 true F__law_drawn) := by
  refine fng (N := N__law_drawn) (b := true) (m := m__law_drawn) rfl T.p__law_drawn sc__law_drawn (by decide) ?_
  intro cdv A outer s H E B hr hg hB tk hp
  exact (bv_cons (sv_setC (i := 3) (mk := (fun o => .val o.fz)) rfl sc__law_drawn.nd (hB 3 (by decide)) (blkOk_by (own := [("n", 4)]) (N := N__law_drawn) (sc := defScope s__law_drawn) (by decide +kernel)) (vs := [4]) rfl (nBs hB [4] (by decide)) (iv_rng1 rfl T.n_range (ev_fz (eo_callR (i := 0) tk (ok__law_draw T) (hr.mono (by decide)) hg rfl T.m__law_draw T.p__law_draw.kp T.b__law_draw (av_cons (ev_bin op_addA addD_ok (ev_var (i := 1)) ev_int) av_nil)))) (fun _ _ _ _ _ => (gc_name sc__law_drawn.nd (hB 4 (by decide)))) (fun _ _ _ _ _ => ct_nil) (fun _ _ _ _ _ => (ev_if (tv_cmp op_gt cmpI_ok (ev_fz (eo_callR (i := 0) takes0 (ok__law_draw T) (hr.mono (by decide)) hg rfl T.m__law_draw T.p__law_draw.kp T.b__law_draw (av_cons ev_int av_nil))) ev_int (nomark _)) (ev_fz (eo_callR (i := 0) takes0 (ok__law_figures T) (hr.mono (by decide)) hg rfl T.m__law_figures T.p__law_figures.kp T.b__law_figures (av_cons (ev_var (i := 2)) av_nil))) ev_int)) (sw_true rfl rfl rfl (by decide +kernel)) (.inr rfl))
 (bv_one (sv_ret (eo_call tk (ok__law_trim T) (hr.mono (by decide)) hg rfl T.m__law_trim T.p__law_trim.kp T.b__law_trim (av_cons (ev_var (i := 3)) av_nil)))))
def m__law_kin : MS :=
 (sseq (sset 2 (mfz (mcallR F__law_draw 0 (mcons (m2 addD (mL lenD (mcons (rd 1) (mret []))) (mret (.int 1))) (mret [])))))
 (sseq (sset 3 (m2 subD (mret (.int 1)) (m2 mulD (mret (.int 2)) (mfz (mcallR F__law_draw 0 (mcons (mret (.int 2)) (mret [])))))))
 (sret (mcall F__law_trim (mcons (mfz (o2 catD (mfz (mcomp [4] (irng1 (rd 2)) (bname 4) (mret true) (mfz (mcallR F__law_figures 0 (mcons (mret (.int 3)) (mret [])))))) (mfz (mcomp [5] (iseq (mcutT (rd 1) (some (rd 2)) none)) (bname 5) (mret true) (m2 mulD (rd 3) (rd 5)))))) (mret []))))))
def F__law_kin : Mir := defM 6 true m__law_kin
theorem ok__law_kin (T : Tx P w K mg base C f fd) : FnG P w K mg base 3 (f 19) (fd 19) ["deck", "one"] (spF (tb K C) 2 true F__law_kin) := by
  refine fng (N := N__law_kin) (b := true) (m := m__law_kin) rfl T.p__law_kin sc__law_kin (by decide) ?_
  intro cdv A outer s H E B hr hg hB tk hp
  exact (bv_cons (sv_set (i := 2) sc__law_kin.nd (hB 2 (by decide)) (ev_fz (eo_callR (i := 0) tk (ok__law_draw T) (hr.mono (by decide)) hg rfl T.m__law_draw T.p__law_draw.kp T.b__law_draw (av_cons (ev_bin op_addA addD_ok (ev_callB call_len lenD_ok rfl T.n_len bt_len (av_cons (ev_var (i := 1)) av_nil)) ev_int) av_nil))))
 (bv_cons (sv_set (i := 3) sc__law_kin.nd (hB 3 (by decide)) (ev_bin op_sub subD_ok ev_int (ev_bin op_mulA mulD_ok ev_int (ev_fz (eo_callR (i := 0) tk (ok__law_draw T) (hr.mono (by decide)) hg rfl T.m__law_draw T.p__law_draw.kp T.b__law_draw (av_cons ev_int av_nil))))))
 (bv_one (sv_ret (eo_call tk (ok__law_trim T) (hr.mono (by decide)) hg rfl T.m__law_trim T.p__law_trim.kp T.b__law_trim (av_cons (ev_fz (eo_bin op_cat catD_ok (ev_fz (eo_comp rfl sc__law_kin.nd (blkOk_by (own := [("n", 4)]) (N := N__law_kin) (sc := defScope s__law_kin) (by decide +kernel)) (vs := [4]) rfl (nBs hB [4] (by decide)) (iv_rng1 rfl T.n_range (ev_var (i := 2))) (fun _ _ _ _ _ => (gc_name sc__law_kin.nd (hB 4 (by decide)))) (fun _ _ _ _ _ => ct_nil) (fun _ _ _ _ _ => (ev_fz (eo_callR (i := 0) takes0 (ok__law_figures T) (hr.mono (by decide)) hg rfl T.m__law_figures T.p__law_figures.kp T.b__law_figures (av_cons ev_int av_nil)))))) (ev_fz (eo_comp rfl sc__law_kin.nd (blkOk_by (own := [("c", 5)]) (N := N__law_kin) (sc := defScope s__law_kin) (by decide +kernel)) (vs := [5]) rfl (nBs hB [5] (by decide)) (iv_seq rfl (ev_cutT rfl (ev_var (i := 1)) (pv_some (ev_var (i := 2))) pv_none)) (fun _ _ _ _ _ => (gc_name sc__law_kin.nd (hB 5 (by decide)))) (fun _ _ _ _ _ => ct_nil) (fun _ _ _ _ _ => (ev_bin op_mulA mulD_ok (ev_var (i := 3)) (ev_var (i := 5)))))))) av_nil))))))
def m__law_told : MS :=
 (stry (sseq (sif (mbl (m2 eqDv (rd 0) (mret (.int 0))))
 (sret (mval (mL tupD (mcons (mret (.str "told")) (mcons (mif (mtru (rd 3)) (mfz (mcallK F_plus [1, 0] (mcons (rd 2) (mcons (rd 1) (mret []))))) (mfz (mcall F_plus (mcons (rd 1) (mcons (rd 2) (mret [])))))) (mret []))))))
 sskip)
 (sseq (sif (mbl (m2 eqDv (rd 0) (mret (.int 1))))
 (sret (mval (mL tupD (mcons (mret (.str "told")) (mcons (mif (mtru (rd 3)) (mfz (mcallK F_less [1, 0] (mcons (rd 2) (mcons (rd 1) (mret []))))) (mfz (mcall F_less (mcons (rd 1) (mcons (rd 2) (mret [])))))) (mret []))))))
 sskip)
 (sseq (sif (mbl (m2 eqDv (rd 0) (mret (.int 2))))
 (sret (mval (mL tupD (mcons (mret (.str "told")) (mcons (mif (mtru (rd 3)) (mfz (mcallK F_times [1, 0] (mcons (rd 2) (mcons (rd 1) (mret []))))) (mfz (mcall F_times (mcons (rd 1) (mcons (rd 2) (mret [])))))) (mret []))))))
 sskip)
 (sret (mval (mL tupD (mcons (mret (.str "told")) (mcons (mif (mtru (rd 3)) (mfz (mcallK F_value_at [1, 0] (mcons (rd 2) (mcons (rd 1) (mret []))))) (mfz (mcall F_value_at (mcons (rd 1) (mcons (rd 2) (mret [])))))) (mret [])))))))))
 (⟨mt_InvalidPolynomial, (some 4), fun c ds => (sseq (sif (mor (mnot (mtru (mlift ((mt_NormalError c).map .bl)))) (mor (mtru (mlift ((mt_InvalidNumber c).map .bl))) (mtru (mlift ((mt_InvalidRows c).map .bl)))))
 (sret (mval (mL tupD (mcons (mret (.str "strange")) (mret [])))))
 sskip)
 (sseq (sif (mor (mtru (mlift ((mt_InvalidWord c).map .bl))) (mor (mtru (mlift ((mt_Undefined c).map .bl))) (mnot (mtru (mlift ((mtT_ValueError c).map .bl))))))
 (sret (mval (mL tupD (mcons (mret (.str "strange")) (mret [])))))
 sskip)
 (sret (mval (mL tupD (mcons (mret (.str "polynomial")) (mcons (mL reprD (mcons (mlift ds[0]?) (mret []))) (mret []))))))))⟩ ::
 (⟨mt_InvalidNumber, (some 4), fun c ds => (sret (mval (mL tupD (mcons (mret (.str "number")) (mcons (mL reprD (mcons (mlift ds[0]?) (mret []))) (mret []))))))⟩ ::
 [])))
def F__law_told : Mir := defM 5 false m__law_told
theorem ok__law_told (T : Tx P w K mg base C f fd) : FnG P w K mg base 5 (f 20) (fd 20) ["which", "one", "other", "named"] (spF (tb K C) 4 false F__law_told) := by
  refine fng (N := N__law_told) (b := false) (m := m__law_told) rfl T.p__law_told sc__law_told (by decide) ?_
  intro cdv A outer s H E B hr hg hB tk hp
  exact (bv_one (sv_try rfl rfl sc__law_told.nd tk (fun W pn xe tk hp => (bv_cons (sv_if (tv_cmp (op_eqD hr.units) eqDv_ok (ev_var (i := 0)) ev_int (nomark _))
 (bv_one (sv_ret (eo_val (ev_tup (av_cons ev_str (av_cons (ev_if (tv_tru rfl (ev_var (i := 3))) (ev_fz (eo_callK (ks := ["other", "one"]) (pm := [1, 0]) tk (ok_plus T) (hr.mono (by decide)) hg rfl T.m_plus T.p_plus.kp T.kplus_10 (kv_cons (ev_var (i := 2)) (kv_cons (ev_var (i := 1)) kv_nil)) (fun ds hl => match ds, hl with | [_, _], _ => rfl))) (ev_fz (eo_call tk (ok_plus T) (hr.mono (by decide)) hg rfl T.m_plus T.p_plus.kp T.b_plus (av_cons (ev_var (i := 1)) (av_cons (ev_var (i := 2)) av_nil))))) av_nil))))))
 bv_nil)
 (bv_cons (sv_if (tv_cmp (op_eqD hr.units) eqDv_ok (ev_var (i := 0)) ev_int (nomark _))
 (bv_one (sv_ret (eo_val (ev_tup (av_cons ev_str (av_cons (ev_if (tv_tru rfl (ev_var (i := 3))) (ev_fz (eo_callK (ks := ["other", "one"]) (pm := [1, 0]) tk (ok_less T) (hr.mono (by decide)) hg rfl T.m_less T.p_less.kp T.kless_10 (kv_cons (ev_var (i := 2)) (kv_cons (ev_var (i := 1)) kv_nil)) (fun ds hl => match ds, hl with | [_, _], _ => rfl))) (ev_fz (eo_call tk (ok_less T) (hr.mono (by decide)) hg rfl T.m_less T.p_less.kp T.b_less (av_cons (ev_var (i := 1)) (av_cons (ev_var (i := 2)) av_nil))))) av_nil))))))
 bv_nil)
 (bv_cons (sv_if (tv_cmp (op_eqD hr.units) eqDv_ok (ev_var (i := 0)) ev_int (nomark _))
 (bv_one (sv_ret (eo_val (ev_tup (av_cons ev_str (av_cons (ev_if (tv_tru rfl (ev_var (i := 3))) (ev_fz (eo_callK (ks := ["other", "one"]) (pm := [1, 0]) tk (ok_times T) (hr.mono (by decide)) hg rfl T.m_times T.p_times.kp T.ktimes_10 (kv_cons (ev_var (i := 2)) (kv_cons (ev_var (i := 1)) kv_nil)) (fun ds hl => match ds, hl with | [_, _], _ => rfl))) (ev_fz (eo_call tk (ok_times T) (hr.mono (by decide)) hg rfl T.m_times T.p_times.kp T.b_times (av_cons (ev_var (i := 1)) (av_cons (ev_var (i := 2)) av_nil))))) av_nil))))))
 bv_nil)
 (bv_one (sv_ret (eo_val (ev_tup (av_cons ev_str (av_cons (ev_if (tv_tru rfl (ev_var (i := 3))) (ev_fz (eo_callK (ks := ["number", "one"]) (pm := [1, 0]) tk (ok_value_at T) (hr.mono (by decide)) hg rfl T.m_value_at T.p_value_at.kp T.kvalue_at_10 (kv_cons (ev_var (i := 2)) (kv_cons (ev_var (i := 1)) kv_nil)) (fun ds hl => match ds, hl with | [_, _], _ => rfl))) (ev_fz (eo_call tk (ok_value_at T) (hr.mono (by decide)) hg rfl T.m_value_at T.p_value_at.kp T.b_value_at (av_cons (ev_var (i := 1)) (av_cons (ev_var (i := 2)) av_nil))))) av_nil))))))))))
 (.consAs (i := 4) T.nm_InvalidPolynomial rfl rfl (hB 4 (by decide)) (mt := mt_InvalidPolynomial) T.mT_InvalidPolynomial (fun a oe cls d pn c ds hz hf ec hm => (bv_cons (sv_if (tv_w (wv_or (tv_not (tv_tru rfl (ev_isE (i := 4) hz hf ec (T.xi_InvalidPolynomial hm) rfl T.n_isinstance (pe_glob (v := .ref (C 0)) rfl T.m_NormalError rfl) (fun _ z => z) (T.kI_NormalError c)))) (wv_or (tv_tru rfl (ev_isE (i := 4) hz hf ec (T.xi_InvalidPolynomial hm) rfl T.n_isinstance (pe_glob (v := .ref (C 1)) rfl T.m_InvalidNumber rfl) (fun _ z => z) (T.kI_InvalidNumber c))) (wv_or1 (tv_tru rfl (ev_isE (i := 4) hz hf ec (T.xi_InvalidPolynomial hm) rfl T.n_isinstance (pe_glob (v := .ref (C 4)) rfl T.m_InvalidRows rfl) (fun _ z => z) (T.kI_InvalidRows c)))))))
 (bv_one (sv_ret (eo_val (ev_tup (av_cons ev_str av_nil)))))
 bv_nil)
 (bv_cons (sv_if (tv_w (wv_or (tv_tru rfl (ev_isE (i := 4) hz hf ec (T.xi_InvalidPolynomial hm) rfl T.n_isinstance (pe_glob (v := .ref (C 2)) rfl T.m_InvalidWord rfl) (fun _ z => z) (T.kI_InvalidWord c))) (wv_or (tv_tru rfl (ev_isE (i := 4) hz hf ec (T.xi_InvalidPolynomial hm) rfl T.n_isinstance (pe_glob (v := .ref (C 5)) rfl T.m_Undefined rfl) (fun _ z => z) (T.kI_Undefined c))) (wv_or1 (tv_not (tv_tru rfl (ev_isE (i := 4) hz hf ec (T.xi_InvalidPolynomial hm) rfl T.n_isinstance (pe_bltn (v := .ty "ValueError") rfl T.n_ValueError bt_ValueError rfl) (fun _ z => z) (T.kT_ValueError c))))))))
 (bv_one (sv_ret (eo_val (ev_tup (av_cons ev_str av_nil)))))
 bv_nil)
 (bv_one (sv_ret (eo_val (ev_tup (av_cons ev_str (av_cons (ev_callB (call_repr hr.units hg) reprD_ok rfl T.n_repr bt_repr (av_cons (ev_exf (i := 4) (j := 0) hz hf ec (T.xf_InvalidPolynomial hm) (T.no_InvalidPolynomial_value hm) (fl_InvalidPolynomial_0 hm)) av_nil)) av_nil)))))))))
 (.consAs (i := 4) T.nm_InvalidNumber rfl rfl (hB 4 (by decide)) (mt := mt_InvalidNumber) T.mT_InvalidNumber (fun a oe cls d pn c ds hz hf ec hm => (bv_one (sv_ret (eo_val (ev_tup (av_cons ev_str (av_cons (ev_callB (call_repr hr.units hg) reprD_ok rfl T.n_repr bt_repr (av_cons (ev_exf (i := 4) (j := 0) hz hf ec (T.xf_InvalidNumber hm) (T.no_InvalidNumber_value hm) (fl_InvalidNumber_0 hm)) av_nil)) av_nil)))))))
 .nil))))
def m__law_value : MS :=
 (sseq (sset 2 (mret (.int 0)))
 (sseq (sfor (iseq (m1 revT (rd 0))) (bname 3)
 (sset 2 (m2 addD (m2 mulD (rd 2) (rd 1)) (rd 3))))
 (sret (mval (rd 2)))))
def F__law_value : Mir := defM 4 false m__law_value
theorem ok__law_value (T : Tx P w K mg base C f fd) : FnG P w K mg base 1 (f 21) (fd 21) ["one", "number"] (spF (tb K C) 2 false F__law_value) := by
  refine fng (N := N__law_value) (b := false) (m := m__law_value) rfl T.p__law_value sc__law_value (by decide) ?_
  intro cdv A outer s H E B hr hg hB tk hp
  exact (bv_cons (sv_set (i := 2) sc__law_value.nd (hB 2 (by decide)) ev_int)
 (bv_cons (sv_for hp rfl (iv_seq rfl (ev_revT rfl (ev_var (i := 0)))) (gv_name (i := 3) sc__law_value.nd (hB 3 (by decide)))
 (bv_one (sv_set (i := 2) sc__law_value.nd (hB 2 (by decide)) (ev_bin op_addA addD_ok (ev_bin op_mulA mulD_ok (ev_var (i := 2)) (ev_var (i := 1))) (ev_var (i := 3))))))
 (bv_one (sv_ret (eo_val (ev_var (i := 2)))))))
def m__law_answered : MS :=
 (sseq (sset 3 (mfz (oL lstD (mcons (mfz (mcall F__law_plus (mcons (rd 1) (mcons (rd 2) (mcons (mret (.int 1)) (mret [])))))) (mcons (mfz (mcall F__law_plus (mcons (rd 1) (mcons (rd 2) (mcons (m1 negD (mret (.int 1))) (mret [])))))) (mcons (mfz (mcall F__law_times (mcons (rd 1) (mcons (rd 2) (mret []))))) (mret [])))))))
 (sseq (sfor (irng1 (mret (.int 3))) (bname 4)
 (sseq (sset 5 (mfz (mcall F__law_told (mcons (rd 4) (mcons (rd 1) (mcons (rd 2) (mcons (m2 eqDv (mfz (mcallR F__law_draw 0 (mcons (mret (.int 2)) (mret [])))) (mret (.int 0))) (mret []))))))))
 (sseq (sif (mor (mbl (m2 neDv (m2 ixD (rd 5) (mret (.int 0))) (mret (.str "told")))) (mnot (mtru (mfz (mcall (F__law_same 8) (mcons (m2 ixD (rd 5) (mret (.int 1))) (mcons (m2 ixD (rd 3) (rd 4)) (mret []))))))))
 (sret (mval (mret (.bl false))))
 sskip)
 (sseq (sset 5 (mfz (mcall F__law_told (mcons (rd 4) (mcons (rd 2) (mcons (rd 1) (mcons (mret (.bl false)) (mret []))))))))
 (sseq (sset 6 (mif (mbl (m2 eqDv (rd 4) (mret (.int 1)))) (mfz (mcall F__law_plus (mcons (mL tupD (mret [])) (mcons (m2 ixD (rd 3) (mret (.int 1))) (mcons (m1 negD (mret (.int 1))) (mret [])))))) (m2 ixD (rd 3) (rd 4))))
 (sif (mor (mbl (m2 neDv (m2 ixD (rd 5) (mret (.int 0))) (mret (.str "told")))) (mnot (mtru (mfz (mcall (F__law_same 8) (mcons (m2 ixD (rd 5) (mret (.int 1))) (mcons (rd 6) (mret []))))))))
 (sret (mval (mret (.bl false))))
 sskip))))))
 (sseq (sfor (iseq (mfz (oL lstD (mcons (m2 ixD (mfz (oL lstD (mcons (mret (.int 0)) (mcons (mret (.int 1)) (mcons (m1 negD (mret (.int 1))) (mcons (mret (.int 10)) (mret []))))))) (mfz (mcallR F__law_draw 0 (mcons (mret (.int 4)) (mret []))))) (mcons (mfz (mcallR F__law_figures 0 (mcons (mret (.int 3)) (mret [])))) (mcons (mfz (mcallR F__law_figures 0 (mcons (mret (.int 30)) (mret [])))) (mret []))))))) (bname 7)
 (sseq (sset 5 (mfz (mcall F__law_told (mcons (mret (.int 3)) (mcons (rd 1) (mcons (rd 7) (mcons (m2 eqDv (mfz (mcallR F__law_draw 0 (mcons (mret (.int 2)) (mret [])))) (mret (.int 0))) (mret []))))))))
 (sif (mor (mbl (m2 neDv (m2 ixD (rd 5) (mret (.int 0))) (mret (.str "told")))) (mnot (mtru (mfz (mcall (F__law_same 8) (mcons (m2 ixD (rd 5) (mret (.int 1))) (mcons (mfz (mcall F__law_value (mcons (rd 1) (mcons (rd 7) (mret []))))) (mret []))))))))
 (sret (mval (mret (.bl false))))
 sskip)))
 (sret (mval (mret (.bl true)))))))
def F__law_answered : Mir := defM 8 true m__law_answered
theorem ok__law_answered (T : Tx P w K mg base C f fd) : FnG P w K mg base 10 (f 22) (fd 22) ["deck", "one", "other"] (spF (tb K C) 3 true F__law_answered) := by
  refine fng (N := N__law_answered) (b := true) (m := m__law_answered) rfl T.p__law_answered sc__law_answered (by decide) ?_
  intro cdv A outer s H E B hr hg hB tk hp
  exact (bv_cons (sv_set (i := 3) sc__law_answered.nd (hB 3 (by decide)) (ev_fz (eo_lst (av_cons (ev_fz (eo_call tk (ok__law_plus T) (hr.mono (by decide)) hg rfl T.m__law_plus T.p__law_plus.kp T.b__law_plus (av_cons (ev_var (i := 1)) (av_cons (ev_var (i := 2)) (av_cons ev_int av_nil))))) (av_cons (ev_fz (eo_call tk (ok__law_plus T) (hr.mono (by decide)) hg rfl T.m__law_plus T.p__law_plus.kp T.b__law_plus (av_cons (ev_var (i := 1)) (av_cons (ev_var (i := 2)) (av_cons (ev_un un_neg negD_ok ev_int) av_nil))))) (av_cons (ev_fz (eo_call tk (ok__law_times T) (hr.mono (by decide)) hg rfl T.m__law_times T.p__law_times.kp T.b__law_times (av_cons (ev_var (i := 1)) (av_cons (ev_var (i := 2)) av_nil)))) av_nil))))))
 (bv_cons (sv_for hp rfl (iv_rng1 rfl T.n_range ev_int) (gv_name (i := 4) sc__law_answered.nd (hB 4 (by decide)))
 (bv_cons (sv_set (i := 5) sc__law_answered.nd (hB 5 (by decide)) (ev_fz (eo_call tk (ok__law_told T) (hr.mono (by decide)) hg rfl T.m__law_told T.p__law_told.kp T.b__law_told (av_cons (ev_var (i := 4)) (av_cons (ev_var (i := 1)) (av_cons (ev_var (i := 2)) (av_cons (ev_cmp (op_eqD hr.units) eqDv_ok (ev_fz (eo_callR (i := 0) tk (ok__law_draw T) (hr.mono (by decide)) hg rfl T.m__law_draw T.p__law_draw.kp T.b__law_draw (av_cons ev_int av_nil))) ev_int (nomark _)) av_nil)))))))
 (bv_cons (sv_if (tv_w (wv_or (tv_cmp (op_neD hr.units) neDv_ok (ev_ix ix_seq ixD_ok (ev_var (i := 5)) ev_int (by intro _ _; rfl)) ev_str (nomark _)) (wv_or1 (tv_not (tv_tru rfl (ev_fz (eo_call tk (ok__law_same T 8) (hr.mono (by decide)) hg rfl T.m__law_same T.p__law_same.kp T.b__law_same (av_cons (ev_ix ix_seq ixD_ok (ev_var (i := 5)) ev_int (by intro _ _; rfl)) (av_cons (ev_ix ix_seq ixD_ok (ev_var (i := 3)) (ev_var (i := 4)) (by intro _ _; rfl)) av_nil)))))))))
 (bv_one (sv_ret (eo_val ev_bl)))
 bv_nil)
 (bv_cons (sv_set (i := 5) sc__law_answered.nd (hB 5 (by decide)) (ev_fz (eo_call tk (ok__law_told T) (hr.mono (by decide)) hg rfl T.m__law_told T.p__law_told.kp T.b__law_told (av_cons (ev_var (i := 4)) (av_cons (ev_var (i := 2)) (av_cons (ev_var (i := 1)) (av_cons ev_bl av_nil)))))))
 (bv_cons (sv_set (i := 6) sc__law_answered.nd (hB 6 (by decide)) (ev_if (tv_cmp (op_eqD hr.units) eqDv_ok (ev_var (i := 4)) ev_int (nomark _)) (ev_fz (eo_call tk (ok__law_plus T) (hr.mono (by decide)) hg rfl T.m__law_plus T.p__law_plus.kp T.b__law_plus (av_cons (ev_tup av_nil) (av_cons (ev_ix ix_seq ixD_ok (ev_var (i := 3)) ev_int (by intro _ _; rfl)) (av_cons (ev_un un_neg negD_ok ev_int) av_nil))))) (ev_ix ix_seq ixD_ok (ev_var (i := 3)) (ev_var (i := 4)) (by intro _ _; rfl))))
 (bv_one (sv_if (tv_w (wv_or (tv_cmp (op_neD hr.units) neDv_ok (ev_ix ix_seq ixD_ok (ev_var (i := 5)) ev_int (by intro _ _; rfl)) ev_str (nomark _)) (wv_or1 (tv_not (tv_tru rfl (ev_fz (eo_call tk (ok__law_same T 8) (hr.mono (by decide)) hg rfl T.m__law_same T.p__law_same.kp T.b__law_same (av_cons (ev_ix ix_seq ixD_ok (ev_var (i := 5)) ev_int (by intro _ _; rfl)) (av_cons (ev_var (i := 6)) av_nil)))))))))
 (bv_one (sv_ret (eo_val ev_bl)))
 bv_nil)))))))
 (bv_cons (sv_for hp rfl (iv_seq rfl (ev_fz (eo_lst (av_cons (ev_ix ix_seq ixD_ok (ev_fz (eo_lst (av_cons ev_int (av_cons ev_int (av_cons (ev_un un_neg negD_ok ev_int) (av_cons ev_int av_nil)))))) (ev_fz (eo_callR (i := 0) tk (ok__law_draw T) (hr.mono (by decide)) hg rfl T.m__law_draw T.p__law_draw.kp T.b__law_draw (av_cons ev_int av_nil))) (by intro _ _; rfl)) (av_cons (ev_fz (eo_callR (i := 0) tk (ok__law_figures T) (hr.mono (by decide)) hg rfl T.m__law_figures T.p__law_figures.kp T.b__law_figures (av_cons ev_int av_nil))) (av_cons (ev_fz (eo_callR (i := 0) tk (ok__law_figures T) (hr.mono (by decide)) hg rfl T.m__law_figures T.p__law_figures.kp T.b__law_figures (av_cons ev_int av_nil))) av_nil)))))) (gv_name (i := 7) sc__law_answered.nd (hB 7 (by decide)))
 (bv_cons (sv_set (i := 5) sc__law_answered.nd (hB 5 (by decide)) (ev_fz (eo_call tk (ok__law_told T) (hr.mono (by decide)) hg rfl T.m__law_told T.p__law_told.kp T.b__law_told (av_cons ev_int (av_cons (ev_var (i := 1)) (av_cons (ev_var (i := 7)) (av_cons (ev_cmp (op_eqD hr.units) eqDv_ok (ev_fz (eo_callR (i := 0) tk (ok__law_draw T) (hr.mono (by decide)) hg rfl T.m__law_draw T.p__law_draw.kp T.b__law_draw (av_cons ev_int av_nil))) ev_int (nomark _)) av_nil)))))))
 (bv_one (sv_if (tv_w (wv_or (tv_cmp (op_neD hr.units) neDv_ok (ev_ix ix_seq ixD_ok (ev_var (i := 5)) ev_int (by intro _ _; rfl)) ev_str (nomark _)) (wv_or1 (tv_not (tv_tru rfl (ev_fz (eo_call tk (ok__law_same T 8) (hr.mono (by decide)) hg rfl T.m__law_same T.p__law_same.kp T.b__law_same (av_cons (ev_ix ix_seq ixD_ok (ev_var (i := 5)) ev_int (by intro _ _; rfl)) (av_cons (ev_fz (eo_call tk (ok__law_value T) (hr.mono (by decide)) hg rfl T.m__law_value T.p__law_value.kp T.b__law_value (av_cons (ev_var (i := 1)) (av_cons (ev_var (i := 7)) av_nil)))) av_nil)))))))))
 (bv_one (sv_ret (eo_val ev_bl)))
 bv_nil))))
 (bv_one (sv_ret (eo_val ev_bl))))))
def m__law_odd : MS :=
 (sseq (sset 2 (mfz (mcallR F__law_draw 0 (mcons (m2 addD (mL lenD (mcons (rd 1) (mret []))) (mret (.int 1))) (mret [])))))
 (sseq (sset 3 (mfz (oL lstD (mcons (m2 addD (rd 1) (mL tupD (mcons (mret (.int 0)) (mret [])))) (mcons (mfz (o2 catD (mfz (oL listD (mcons (rd 1) (mret [])))) (mfz (oL lstD (mcons (mret (.int 1)) (mret [])))))) (mcons (m2 addD (rd 1) (mL tupD (mcons (mret (.bl true)) (mret [])))) (mcons (m2 addD (m2 addD (m2 addD (mcutT (rd 1) none (some (rd 2))) (mL tupD (mcons (mret .non) (mret [])))) (mcutT (rd 1) (some (rd 2)) none)) (mL tupD (mcons (mret (.int 1)) (mret [])))) (mcons (mL tupD (mcons (mret (.int 0)) (mret []))) (mcons (m2 addD (rd 1) (mL tupD (mcons (mret (.int 0)) (mcons (mret (.int 0)) (mret []))))) (mret []))))))))))
 (sseq (sset 3 (mfz (o2 catD (rd 3) (mfz (oL lstD (mcons (m2 addD (m2 addD (m2 addD (mcutT (rd 1) none (some (rd 2))) (mL tupD (mcons (mL boolD (mcons (rd 2) (mret []))) (mret [])))) (mcutT (rd 1) (some (rd 2)) none)) (mL tupD (mcons (mret (.int 1)) (mret [])))) (mcons (mL tupD (mcons (mL tupD (mcons (mret (.int 1)) (mret []))) (mret []))) (mcons (mret .non) (mcons (mret (.int 0)) (mcons (mret (.int 1)) (mcons (mret (.bl true)) (mcons (mret (.str "")) (mcons (mret (.str "1")) (mcons (mfz (oL lstD (mret []))) (mcons (mL tupD (mcons (mfz (oL lstD (mret []))) (mret []))) (mret []))))))))))))))))
 (sret (o2 catD (rd 3) (mfz (oL lstD (mcons (m2 addD (rd 1) (mL tupD (mcons (mret (.str "1")) (mret [])))) (mcons (mL tupD (mcons (rd 1) (mcons (mL tupD (mcons (mret (.int 1)) (mret []))) (mret [])))) (mcons (m2 addD (m2 addD (mcutT (rd 1) none (some (rd 2))) (mL tupD (mcons (mL tupD (mcons (mret (.int 2)) (mret []))) (mret [])))) (mcutT (rd 1) (some (rd 2)) none)) (mcons (mfz (oL lstD (mcons (rd 1) (mret [])))) (mcons (m2 addD (rd 1) (mL tupD (mcons (mret (.bl false)) (mret [])))) (mcons (mL tupD (mcons (mret (.int 1)) (mcons (mret (.int 0)) (mret [])))) (mret []))))))))))))))
def F__law_odd : Mir := defM 4 true m__law_odd
theorem ok__law_odd (T : Tx P w K mg base C f fd) : FnG P w K mg base 2 (f 23) (fd 23) ["deck", "one"] (spF (tb K C) 2 true F__law_odd) := by
  refine fng (N := N__law_odd) (b := true) (m := m__law_odd) rfl T.p__law_odd sc__law_odd (by decide) ?_
  intro cdv A outer s H E B hr hg hB tk hp
  exact (bv_cons (sv_set (i := 2) sc__law_odd.nd (hB 2 (by decide)) (ev_fz (eo_callR (i := 0) tk (ok__law_draw T) (hr.mono (by decide)) hg rfl T.m__law_draw T.p__law_draw.kp T.b__law_draw (av_cons (ev_bin op_addA addD_ok (ev_callB call_len lenD_ok rfl T.n_len bt_len (av_cons (ev_var (i := 1)) av_nil)) ev_int) av_nil))))
 (bv_cons (sv_set (i := 3) sc__law_odd.nd (hB 3 (by decide)) (ev_fz (eo_lst (av_cons (ev_bin op_addA addD_ok (ev_var (i := 1)) (ev_tup (av_cons ev_int av_nil))) (av_cons (ev_fz (eo_bin op_cat catD_ok (ev_fz (eo_callTy call_list_of listD_ok rfl T.n_list bt_list (av_cons (ev_var (i := 1)) av_nil))) (ev_fz (eo_lst (av_cons ev_int av_nil))))) (av_cons (ev_bin op_addA addD_ok (ev_var (i := 1)) (ev_tup (av_cons ev_bl av_nil))) (av_cons (ev_bin op_addA addD_ok (ev_bin op_addA addD_ok (ev_bin op_addA addD_ok (ev_cutT rfl (ev_var (i := 1)) pv_none (pv_some (ev_var (i := 2)))) (ev_tup (av_cons ev_non av_nil))) (ev_cutT rfl (ev_var (i := 1)) (pv_some (ev_var (i := 2))) pv_none)) (ev_tup (av_cons ev_int av_nil))) (av_cons (ev_tup (av_cons ev_int av_nil)) (av_cons (ev_bin op_addA addD_ok (ev_var (i := 1)) (ev_tup (av_cons ev_int (av_cons ev_int av_nil)))) av_nil)))))))))
 (bv_cons (sv_set (i := 3) sc__law_odd.nd (hB 3 (by decide)) (ev_fz (eo_bin op_cat catD_ok (ev_var (i := 3)) (ev_fz (eo_lst (av_cons (ev_bin op_addA addD_ok (ev_bin op_addA addD_ok (ev_bin op_addA addD_ok (ev_cutT rfl (ev_var (i := 1)) pv_none (pv_some (ev_var (i := 2)))) (ev_tup (av_cons (ev_callTy call_bool1 boolD_ok rfl T.n_bool bt_bool (av_cons (ev_var (i := 2)) av_nil)) av_nil))) (ev_cutT rfl (ev_var (i := 1)) (pv_some (ev_var (i := 2))) pv_none)) (ev_tup (av_cons ev_int av_nil))) (av_cons (ev_tup (av_cons (ev_tup (av_cons ev_int av_nil)) av_nil)) (av_cons ev_non (av_cons ev_int (av_cons ev_int (av_cons ev_bl (av_cons ev_str (av_cons ev_str (av_cons (ev_fz (eo_lst av_nil)) (av_cons (ev_tup (av_cons (ev_fz (eo_lst av_nil)) av_nil)) av_nil)))))))))))))))
 (bv_one (sv_ret (eo_bin op_cat catD_ok (ev_var (i := 3)) (ev_fz (eo_lst (av_cons (ev_bin op_addA addD_ok (ev_var (i := 1)) (ev_tup (av_cons ev_str av_nil))) (av_cons (ev_tup (av_cons (ev_var (i := 1)) (av_cons (ev_tup (av_cons ev_int av_nil)) av_nil))) (av_cons (ev_bin op_addA addD_ok (ev_bin op_addA addD_ok (ev_cutT rfl (ev_var (i := 1)) pv_none (pv_some (ev_var (i := 2)))) (ev_tup (av_cons (ev_tup (av_cons ev_int av_nil)) av_nil))) (ev_cutT rfl (ev_var (i := 1)) (pv_some (ev_var (i := 2))) pv_none)) (av_cons (ev_fz (eo_lst (av_cons (ev_var (i := 1)) av_nil))) (av_cons (ev_bin op_addA addD_ok (ev_var (i := 1)) (ev_tup (av_cons ev_bl av_nil))) (av_cons (ev_tup (av_cons ev_int (av_cons ev_int av_nil))) av_nil))))))))))))))
def m__law_judged : MS :=
 (sseq (sset 2 (mfz (mcall F__law_trim (mcons (mcutT (rd 1) none (some (mret (.int 30)))) (mret [])))))
 (sseq (sfor (iseq (mfz (oL lstD (mcons (rd 1) (mcons (mL tupD (mret [])) (mcons (m2 addD (rd 2) (mL tupD (mcons (mret (.int 1)) (mret [])))) (mcons (m2 addD (m2 addD (mL tupD (mcons (mret (.int 0)) (mcons (mret (.int 0)) (mret [])))) (rd 2)) (mL tupD (mcons (m1 negD (mret (.int 1))) (mret [])))) (mret [])))))))) (bname 3)
 (sif (mbl (m2 isNotD (mfz (mcall F_is_polynomial (mcons (rd 3) (mret [])))) (mret (.bl true))))
 (sret (mval (mret (.bl false))))
 sskip))
 (sseq (sset 4 (mfz (mcallR F__law_odd 0 (mcons (rd 2) (mret [])))))
 (sseq (sfor (irng1 (mret (.int 8))) (bname 5)
 (sseq (sset 3 (m2 ixD (rd 4) (mfz (mcallR F__law_draw 0 (mcons (mL lenD (mcons (rd 4) (mret []))) (mret []))))))
 (sseq (sset 6 (mL reprD (mcons (rd 3) (mret []))))
 (sseq (sset 7 (mif (mbl (m2 ltDv (rd 5) (mret (.int 5)))) (mfz (mcall F_is_polynomial (mcons (rd 3) (mret [])))) (mfz (mcallK F_is_polynomial [0] (mcons (rd 3) (mret []))))))
 (sif (mor (mbl (m2 isNotD (rd 7) (mret (.bl false)))) (mbl (m2 neDv (mL reprD (mcons (rd 3) (mret []))) (rd 6))))
 (sret (mval (mret (.bl false))))
 sskip)))))
 (sret (mval (mret (.bl true))))))))
def F__law_judged : Mir := defM 8 true m__law_judged
theorem ok__law_judged (T : Tx P w K mg base C f fd) : FnG P w K mg base 3 (f 24) (fd 24) ["deck", "one"] (spF (tb K C) 2 true F__law_judged) := by
  refine fng (N := N__law_judged) (b := true) (m := m__law_judged) rfl T.p__law_judged sc__law_judged (by decide) ?_
  intro cdv A outer s H E B hr hg hB tk hp
  exact (bv_cons (sv_set (i := 2) sc__law_judged.nd (hB 2 (by decide)) (ev_fz (eo_call tk (ok__law_trim T) (hr.mono (by decide)) hg rfl T.m__law_trim T.p__law_trim.kp T.b__law_trim (av_cons (ev_cutT rfl (ev_var (i := 1)) pv_none (pv_some ev_int)) av_nil))))
 (bv_cons (sv_for hp rfl (iv_seq rfl (ev_fz (eo_lst (av_cons (ev_var (i := 1)) (av_cons (ev_tup av_nil) (av_cons (ev_bin op_addA addD_ok (ev_var (i := 2)) (ev_tup (av_cons ev_int av_nil))) (av_cons (ev_bin op_addA addD_ok (ev_bin op_addA addD_ok (ev_tup (av_cons ev_int (av_cons ev_int av_nil))) (ev_var (i := 2))) (ev_tup (av_cons (ev_un un_neg negD_ok ev_int) av_nil))) av_nil))))))) (gv_name (i := 3) sc__law_judged.nd (hB 3 (by decide)))
 (bv_one (sv_if (tv_cmp op_isNotA isNotD_ok (ev_fz (eo_call tk (ok_is_polynomial T) (hr.mono (by decide)) hg rfl T.m_is_polynomial T.p_is_polynomial.kp T.b_is_polynomial (av_cons (ev_var (i := 3)) av_nil))) ev_bl (nomark _))
 (bv_one (sv_ret (eo_val ev_bl)))
 bv_nil)))
 (bv_cons (sv_set (i := 4) sc__law_judged.nd (hB 4 (by decide)) (ev_fz (eo_callR (i := 0) tk (ok__law_odd T) (hr.mono (by decide)) hg rfl T.m__law_odd T.p__law_odd.kp T.b__law_odd (av_cons (ev_var (i := 2)) av_nil))))
 (bv_cons (sv_for hp rfl (iv_rng1 rfl T.n_range ev_int) (gv_name (i := 5) sc__law_judged.nd (hB 5 (by decide)))
 (bv_cons (sv_set (i := 3) sc__law_judged.nd (hB 3 (by decide)) (ev_ix ix_seq ixD_ok (ev_var (i := 4)) (ev_fz (eo_callR (i := 0) tk (ok__law_draw T) (hr.mono (by decide)) hg rfl T.m__law_draw T.p__law_draw.kp T.b__law_draw (av_cons (ev_callB call_len lenD_ok rfl T.n_len bt_len (av_cons (ev_var (i := 4)) av_nil)) av_nil))) (by intro _ _; rfl)))
 (bv_cons (sv_set (i := 6) sc__law_judged.nd (hB 6 (by decide)) (ev_callB (call_repr hr.units hg) reprD_ok rfl T.n_repr bt_repr (av_cons (ev_var (i := 3)) av_nil)))
 (bv_cons (sv_set (i := 7) sc__law_judged.nd (hB 7 (by decide)) (ev_if (tv_cmp op_lt cmpI_ok (ev_var (i := 5)) ev_int (nomark _)) (ev_fz (eo_call tk (ok_is_polynomial T) (hr.mono (by decide)) hg rfl T.m_is_polynomial T.p_is_polynomial.kp T.b_is_polynomial (av_cons (ev_var (i := 3)) av_nil))) (ev_fz (eo_callK (ks := ["value"]) (pm := [0]) tk (ok_is_polynomial T) (hr.mono (by decide)) hg rfl T.m_is_polynomial T.p_is_polynomial.kp T.kis_polynomial_0 (kv_cons (ev_var (i := 3)) kv_nil) (fun ds hl => match ds, hl with | [_], _ => rfl)))))
 (bv_one (sv_if (tv_w (wv_or (tv_cmp op_isNotA isNotD_ok (ev_var (i := 7)) ev_bl (nomark _)) (wv_or1 (tv_cmp (op_neD hr.units) neDv_ok (ev_callB (call_repr hr.units hg) reprD_ok rfl T.n_repr bt_repr (av_cons (ev_var (i := 3)) av_nil)) (ev_var (i := 6)) (nomark _)))))
 (bv_one (sv_ret (eo_val ev_bl)))
 bv_nil))))))
 (bv_one (sv_ret (eo_val ev_bl)))))))
def m__law_refused : MS :=
 (sseq (sset 2 (mfz (mcallR F__law_odd 0 (mcons (rd 1) (mret [])))))
 (sseq (sset 3 (mfz (oL lstD (mcons (mret (.bl true)) (mcons (mret .non) (mcons (mret (.str "1")) (mcons (mL tupD (mcons (mret (.int 1)) (mret []))) (mcons (mfz (oL lstD (mcons (mret (.int 2)) (mret [])))) (mcons (mret (.bl false)) (mcons (mL tupD (mret [])) (mret [])))))))))))
 (sseq (sfor (irng1 (mret (.int 4))) (bname 4)
 (sseq (sset 5 (m2 ixD (rd 2) (mfz (mcallR F__law_draw 0 (mcons (mL lenD (mcons (rd 2) (mret []))) (mret []))))))
 (sseq (sset 6 (m2 ixD (rd 2) (mfz (mcallR F__law_draw 0 (mcons (mL lenD (mcons (rd 2) (mret []))) (mret []))))))
 (sseq (sset 7 (mL tupD (mcons (mret (.str "polynomial")) (mcons (mL reprD (mcons (rd 5) (mret []))) (mret [])))))
 (sseq (sset 8 (m2 eqDv (mfz (mcallR F__law_draw 0 (mcons (mret (.int 2)) (mret [])))) (mret (.int 0))))
 (sseq (sif (mbl (m2 eqDv (rd 4) (mret (.int 3))))
 (sseq (sset 6 (m2 ixD (rd 3) (mfz (mcallR F__law_draw 0 (mcons (mret (.int 7)) (mret []))))))
 (sif (mor (mbl (m2 neDv (mfz (mcall F__law_told (mcons (mret (.int 3)) (mcons (rd 1) (mcons (rd 6) (mcons (rd 8) (mret []))))))) (mL tupD (mcons (mret (.str "number")) (mcons (mL reprD (mcons (rd 6) (mret []))) (mret [])))))) (mbl (m2 neDv (mfz (mcall F__law_told (mcons (mret (.int 3)) (mcons (rd 5) (mcons (mret (.int 5)) (mcons (rd 8) (mret []))))))) (rd 7))))
 (sret (mval (mret (.bl false))))
 sskip))
 (sif (mor (mbl (m2 neDv (mfz (mcall F__law_told (mcons (rd 4) (mcons (rd 1) (mcons (rd 5) (mcons (rd 8) (mret []))))))) (rd 7))) (mbl (m2 neDv (mfz (mcall F__law_told (mcons (rd 4) (mcons (rd 5) (mcons (rd 1) (mcons (rd 8) (mret []))))))) (rd 7))))
 (sret (mval (mret (.bl false))))
 sskip))
 (sif (mbl (m2 neDv (mfz (mcall F__law_told (mcons (rd 4) (mcons (rd 5) (mcons (rd 6) (mcons (rd 8) (mret []))))))) (rd 7)))
 (sret (mval (mret (.bl false))))
 sskip)))))))
 (sret (mval (mret (.bl true)))))))
def F__law_refused : Mir := defM 9 true m__law_refused
theorem ok__law_refused (T : Tx P w K mg base C f fd) : FnG P w K mg base 6 (f 25) (fd 25) ["deck", "one"] (spF (tb K C) 2 true F__law_refused) := by
  refine fng (N := N__law_refused) (b := true) (m := m__law_refused) rfl T.p__law_refused sc__law_refused (by decide) ?_
  intro cdv A outer s H E B hr hg hB tk hp
  exact (bv_cons (sv_set (i := 2) sc__law_refused.nd (hB 2 (by decide)) (ev_fz (eo_callR (i := 0) tk (ok__law_odd T) (hr.mono (by decide)) hg rfl T.m__law_odd T.p__law_odd.kp T.b__law_odd (av_cons (ev_var (i := 1)) av_nil))))
 (bv_cons (sv_set (i := 3) sc__law_refused.nd (hB 3 (by decide)) (ev_fz (eo_lst (av_cons ev_bl (av_cons ev_non (av_cons ev_str (av_cons (ev_tup (av_cons ev_int av_nil)) (av_cons (ev_fz (eo_lst (av_cons ev_int av_nil))) (av_cons ev_bl (av_cons (ev_tup av_nil) av_nil))))))))))
 (bv_cons (sv_for hp rfl (iv_rng1 rfl T.n_range ev_int) (gv_name (i := 4) sc__law_refused.nd (hB 4 (by decide)))
 (bv_cons (sv_set (i := 5) sc__law_refused.nd (hB 5 (by decide)) (ev_ix ix_seq ixD_ok (ev_var (i := 2)) (ev_fz (eo_callR (i := 0) tk (ok__law_draw T) (hr.mono (by decide)) hg rfl T.m__law_draw T.p__law_draw.kp T.b__law_draw (av_cons (ev_callB call_len lenD_ok rfl T.n_len bt_len (av_cons (ev_var (i := 2)) av_nil)) av_nil))) (by intro _ _; rfl)))
 (bv_cons (sv_set (i := 6) sc__law_refused.nd (hB 6 (by decide)) (ev_ix ix_seq ixD_ok (ev_var (i := 2)) (ev_fz (eo_callR (i := 0) tk (ok__law_draw T) (hr.mono (by decide)) hg rfl T.m__law_draw T.p__law_draw.kp T.b__law_draw (av_cons (ev_callB call_len lenD_ok rfl T.n_len bt_len (av_cons (ev_var (i := 2)) av_nil)) av_nil))) (by intro _ _; rfl)))
 (bv_cons (sv_set (i := 7) sc__law_refused.nd (hB 7 (by decide)) (ev_tup (av_cons ev_str (av_cons (ev_callB (call_repr hr.units hg) reprD_ok rfl T.n_repr bt_repr (av_cons (ev_var (i := 5)) av_nil)) av_nil))))
 (bv_cons (sv_set (i := 8) sc__law_refused.nd (hB 8 (by decide)) (ev_cmp (op_eqD hr.units) eqDv_ok (ev_fz (eo_callR (i := 0) tk (ok__law_draw T) (hr.mono (by decide)) hg rfl T.m__law_draw T.p__law_draw.kp T.b__law_draw (av_cons ev_int av_nil))) ev_int (nomark _)))
 (bv_cons (sv_if (tv_cmp (op_eqD hr.units) eqDv_ok (ev_var (i := 4)) ev_int (nomark _))
 (bv_cons (sv_set (i := 6) sc__law_refused.nd (hB 6 (by decide)) (ev_ix ix_seq ixD_ok (ev_var (i := 3)) (ev_fz (eo_callR (i := 0) tk (ok__law_draw T) (hr.mono (by decide)) hg rfl T.m__law_draw T.p__law_draw.kp T.b__law_draw (av_cons ev_int av_nil))) (by intro _ _; rfl)))
 (bv_one (sv_if (tv_w (wv_or (tv_cmp (op_neD hr.units) neDv_ok (ev_fz (eo_call tk (ok__law_told T) (hr.mono (by decide)) hg rfl T.m__law_told T.p__law_told.kp T.b__law_told (av_cons ev_int (av_cons (ev_var (i := 1)) (av_cons (ev_var (i := 6)) (av_cons (ev_var (i := 8)) av_nil)))))) (ev_tup (av_cons ev_str (av_cons (ev_callB (call_repr hr.units hg) reprD_ok rfl T.n_repr bt_repr (av_cons (ev_var (i := 6)) av_nil)) av_nil))) (nomark _)) (wv_or1 (tv_cmp (op_neD hr.units) neDv_ok (ev_fz (eo_call tk (ok__law_told T) (hr.mono (by decide)) hg rfl T.m__law_told T.p__law_told.kp T.b__law_told (av_cons ev_int (av_cons (ev_var (i := 5)) (av_cons ev_int (av_cons (ev_var (i := 8)) av_nil)))))) (ev_var (i := 7)) (nomark _)))))
 (bv_one (sv_ret (eo_val ev_bl)))
 bv_nil)))
 (bv_one (sv_if (tv_w (wv_or (tv_cmp (op_neD hr.units) neDv_ok (ev_fz (eo_call tk (ok__law_told T) (hr.mono (by decide)) hg rfl T.m__law_told T.p__law_told.kp T.b__law_told (av_cons (ev_var (i := 4)) (av_cons (ev_var (i := 1)) (av_cons (ev_var (i := 5)) (av_cons (ev_var (i := 8)) av_nil)))))) (ev_var (i := 7)) (nomark _)) (wv_or1 (tv_cmp (op_neD hr.units) neDv_ok (ev_fz (eo_call tk (ok__law_told T) (hr.mono (by decide)) hg rfl T.m__law_told T.p__law_told.kp T.b__law_told (av_cons (ev_var (i := 4)) (av_cons (ev_var (i := 5)) (av_cons (ev_var (i := 1)) (av_cons (ev_var (i := 8)) av_nil)))))) (ev_var (i := 7)) (nomark _)))))
 (bv_one (sv_ret (eo_val ev_bl)))
 bv_nil)))
 (bv_one (sv_if (tv_cmp (op_neD hr.units) neDv_ok (ev_fz (eo_call tk (ok__law_told T) (hr.mono (by decide)) hg rfl T.m__law_told T.p__law_told.kp T.b__law_told (av_cons (ev_var (i := 4)) (av_cons (ev_var (i := 5)) (av_cons (ev_var (i := 6)) (av_cons (ev_var (i := 8)) av_nil)))))) (ev_var (i := 7)) (nomark _))
 (bv_one (sv_ret (eo_val ev_bl)))
 bv_nil))))))))
 (bv_one (sv_ret (eo_val ev_bl))))))
def m__law_all : MS :=
 (sseq (ssetO 1 (mcall F__law_deck (mcons (rd 0) (mret []))))
 (sseq (sbind (btup 2 (bcons (bname 2) (bcons (bname 3) bnil))) (m2 ixD (mfz (oL lstD (mcons (mL tupD (mcons (mret (.int 40)) (mcons (mret (.int 3)) (mret [])))) (mcons (mL tupD (mcons (mret (.int 12)) (mcons (mret (.int 12)) (mret [])))) (mcons (mL tupD (mcons (mret (.int 40)) (mcons (mret (.int 30)) (mret [])))) (mcons (mL tupD (mcons (mret (.int 5)) (mcons (mret (.int 2)) (mret [])))) (mcons (mL tupD (mcons (mret (.int 8)) (mcons (mret (.int 6)) (mret [])))) (mcons (mL tupD (mcons (mret (.int 6)) (mcons (mret (.int 30)) (mret [])))) (mret []))))))))) (mfz (mcallR F__law_draw 1 (mcons (mret (.int 6)) (mret []))))))
 (sseq (sif (mand (mbl (m2 gtDv (m2 mulD (rd 2) (rd 3)) (mret (.int 200)))) (mbl (m2 gtDv (mfz (mcallR F__law_draw 1 (mcons (mret (.int 3)) (mret [])))) (mret (.int 0)))))
 (sbind (btup 2 (bcons (bname 2) (bcons (bname 3) bnil))) (mL tupD (mcons (mret (.int 9)) (mcons (mret (.int 9)) (mret [])))))
 sskip)
 (sseq (sset 4 (mfz (mcallR F__law_drawn 1 (mcons (rd 2) (mcons (rd 3) (mret []))))))
 (sseq (sset 5 (mfz (mcallR F__law_drawn 1 (mcons (rd 2) (mcons (rd 3) (mret []))))))
 (sseq (sif (mbl (m2 eqDv (mfz (mcallR F__law_draw 1 (mcons (mret (.int 2)) (mret [])))) (mret (.int 0))))
 (sset 5 (mfz (mcallR F__law_kin 1 (mcons (rd 4) (mret [])))))
 sskip)
 (sseq (sset 6 (mfz (mcallR F__law_drawn 1 (mcons (mret (.int 3)) (mcons (mret (.int 2)) (mret []))))))
 (sseq (sif (mor (mnot (mtru (mfz (mcallR F__law_answered 1 (mcons (rd 4) (mcons (rd 5) (mret []))))))) (mnot (mtru (mfz (mcallR F__law_answered 1 (mcons (mL tupD (mret [])) (mcons (rd 6) (mret []))))))))
 (sret (mval (mret (.bl false))))
 sskip)
 (sret (mval (mandV (mfz (mcallR F__law_judged 1 (mcons (rd 6) (mret [])))) (mandV (mfz (mcallR F__law_judged 1 (mcons (rd 4) (mret [])))) (mfz (mcallR F__law_refused 1 (mcons (rd 6) (mret []))))))))))))))))
def F__law_all : Mir := defM 7 false m__law_all
theorem ok__law_all (T : Tx P w K mg base C f fd) : FnG P w K mg base 11 (f 26) (fd 26) ["script"] (spF (tb K C) 1 false F__law_all) := by
  refine fng (N := N__law_all) (b := false) (m := m__law_all) rfl T.p__law_all sc__law_all (by decide) ?_
  intro cdv A outer s H E B hr hg hB tk hp
  exact (bv_cons (sv_setO (i := 1) sc__law_all.nd (hB 1 (by decide)) (eo_call tk (ok__law_deck T) (hr.mono (by decide)) hg rfl T.m__law_deck T.p__law_deck.kp T.b__law_deck (av_cons (ev_var (i := 0)) av_nil)))
 (bv_cons (sv_asg (ev_ix ix_seq ixD_ok (ev_fz (eo_lst (av_cons (ev_tup (av_cons ev_int (av_cons ev_int av_nil))) (av_cons (ev_tup (av_cons ev_int (av_cons ev_int av_nil))) (av_cons (ev_tup (av_cons ev_int (av_cons ev_int av_nil))) (av_cons (ev_tup (av_cons ev_int (av_cons ev_int av_nil))) (av_cons (ev_tup (av_cons ev_int (av_cons ev_int av_nil))) (av_cons (ev_tup (av_cons ev_int (av_cons ev_int av_nil))) av_nil)))))))) (ev_fz (eo_callR (i := 1) tk (ok__law_draw T) (hr.mono (by decide)) hg rfl T.m__law_draw T.p__law_draw.kp T.b__law_draw (av_cons ev_int av_nil))) (by intro _ _; rfl)) (gv_tup (n := 2) rfl rfl (gsv_cons (gv_name (i := 2) sc__law_all.nd (hB 2 (by decide))) (gsv_cons (gv_name (i := 3) sc__law_all.nd (hB 3 (by decide))) gsv_nil))))
 (bv_cons (sv_if (tv_w (wv_and (tv_cmp op_gt cmpI_ok (ev_bin op_mulA mulD_ok (ev_var (i := 2)) (ev_var (i := 3))) ev_int (nomark _)) (wv_and1 (tv_cmp op_gt cmpI_ok (ev_fz (eo_callR (i := 1) tk (ok__law_draw T) (hr.mono (by decide)) hg rfl T.m__law_draw T.p__law_draw.kp T.b__law_draw (av_cons ev_int av_nil))) ev_int (nomark _)))))
 (bv_one (sv_asg (ev_tup (av_cons ev_int (av_cons ev_int av_nil))) (gv_tup (n := 2) rfl rfl (gsv_cons (gv_name (i := 2) sc__law_all.nd (hB 2 (by decide))) (gsv_cons (gv_name (i := 3) sc__law_all.nd (hB 3 (by decide))) gsv_nil)))))
 bv_nil)
 (bv_cons (sv_set (i := 4) sc__law_all.nd (hB 4 (by decide)) (ev_fz (eo_callR (i := 1) tk (ok__law_drawn T) (hr.mono (by decide)) hg rfl T.m__law_drawn T.p__law_drawn.kp T.b__law_drawn (av_cons (ev_var (i := 2)) (av_cons (ev_var (i := 3)) av_nil)))))
 (bv_cons (sv_set (i := 5) sc__law_all.nd (hB 5 (by decide)) (ev_fz (eo_callR (i := 1) tk (ok__law_drawn T) (hr.mono (by decide)) hg rfl T.m__law_drawn T.p__law_drawn.kp T.b__law_drawn (av_cons (ev_var (i := 2)) (av_cons (ev_var (i := 3)) av_nil)))))
 (bv_cons (sv_if (tv_cmp (op_eqD hr.units) eqDv_ok (ev_fz (eo_callR (i := 1) tk (ok__law_draw T) (hr.mono (by decide)) hg rfl T.m__law_draw T.p__law_draw.kp T.b__law_draw (av_cons ev_int av_nil))) ev_int (nomark _))
 (bv_one (sv_set (i := 5) sc__law_all.nd (hB 5 (by decide)) (ev_fz (eo_callR (i := 1) tk (ok__law_kin T) (hr.mono (by decide)) hg rfl T.m__law_kin T.p__law_kin.kp T.b__law_kin (av_cons (ev_var (i := 4)) av_nil)))))
 bv_nil)
 (bv_cons (sv_set (i := 6) sc__law_all.nd (hB 6 (by decide)) (ev_fz (eo_callR (i := 1) tk (ok__law_drawn T) (hr.mono (by decide)) hg rfl T.m__law_drawn T.p__law_drawn.kp T.b__law_drawn (av_cons ev_int (av_cons ev_int av_nil)))))
 (bv_cons (sv_if (tv_w (wv_or (tv_not (tv_tru rfl (ev_fz (eo_callR (i := 1) tk (ok__law_answered T) (hr.mono (by decide)) hg rfl T.m__law_answered T.p__law_answered.kp T.b__law_answered (av_cons (ev_var (i := 4)) (av_cons (ev_var (i := 5)) av_nil)))))) (wv_or1 (tv_not (tv_tru rfl (ev_fz (eo_callR (i := 1) tk (ok__law_answered T) (hr.mono (by decide)) hg rfl T.m__law_answered T.p__law_answered.kp T.b__law_answered (av_cons (ev_tup av_nil) (av_cons (ev_var (i := 6)) av_nil)))))))))
 (bv_one (sv_ret (eo_val ev_bl)))
 bv_nil)
 (bv_one (sv_ret (eo_val (ev_and rfl (ev_fz (eo_callR (i := 1) tk (ok__law_judged T) (hr.mono (by decide)) hg rfl T.m__law_judged T.p__law_judged.kp T.b__law_judged (av_cons (ev_var (i := 6)) av_nil))) (ev_and rfl (ev_fz (eo_callR (i := 1) tk (ok__law_judged T) (hr.mono (by decide)) hg rfl T.m__law_judged T.p__law_judged.kp T.b__law_judged (av_cons (ev_var (i := 4)) av_nil))) (ev_one (ev_fz (eo_callR (i := 1) tk (ok__law_refused T) (hr.mono (by decide)) hg rfl T.m__law_refused T.p__law_refused.kp T.b__law_refused (av_cons (ev_var (i := 6)) av_nil)))))))))))))))))
def m_law : MS :=
 (stry (sret (mcall F__law_all (mcons (rd 0) (mret []))))
 (⟨mt_NormalError, none, fun c ds => (sret (mval (mret (.bl false))))⟩ ::
 []))
def F_law : Mir := defM 1 false m_law
theorem ok_law (T : Tx P w K mg base C f fd) : FnG P w K mg base 12 (f 27) (fd 27) ["script"] (spF (tb K C) 1 false F_law) := by
  refine fng (N := N_law) (b := false) (m := m_law) rfl T.p_law sc_law (by decide) ?_
  intro cdv A outer s H E B hr hg hB tk hp
  exact (bv_one (sv_try rfl rfl sc_law.nd tk (fun W pn xe tk hp => (bv_one (sv_ret (eo_call tk (ok__law_all T) (hr.mono (by decide)) hg rfl T.m__law_all T.p__law_all.kp T.b__law_all (av_cons (ev_var (i := 0)) av_nil)))))
 (.cons T.nm_NormalError (mt := mt_NormalError) T.mT_NormalError (fun a oe cls d pn c ds hz hf ec hm => (bv_one (sv_ret (eo_val ev_bl))))
 .nil)))
end
end L52
set_option Elab.async false
set_option maxRecDepth 100000
set_option linter.all false
namespace L52
open PySem L2 Y
/-! ### drawing -/
structure Dk where
  cells : List Int
  j : Nat
  v : Int
  m : Int
def dk (c : Dk) : O := nl [il c.cells, .int (c.j : Int), .int c.v, .int c.m]
theorem pow18 : powD (.int 10) (.int 18) = some (.int 1000000000000000000) := by simp [powD]
theorem pow60 : powD (.int 10) (.int 60) = some (.int (10 ^ 60)) := by simp [powD]
theorem mul60 : mulD (.int (10 ^ 60)) (.int (10 ^ 60)) = some (.int (10 ^ 60 * 10 ^ 60)) := v_mul (by decide +kernel)
theorem w_draw (c : Dk) {L : Int} (h0 : 0 < L) (h1 : L ≤ 100000) : ∃ (r : Nat) (c' : Dk), (r : Int) < L ∧ F__law_draw [dk c, .val (.int L)] = .ok (.val (.int (r : Int)), dk c') := by
  have key : ∃ o o1, F__law_draw [dk c, .val (.int L)] = .ok (o, o1) ∧ ∃ (r : Nat) (c' : Dk), (r : Int) < L ∧ o = .val (.int (r : Int)) ∧ o1 = dk c' := by
    unfold F__law_draw
    refine fn_T ?_
    unfold m__law_draw
    have hd : divOk L = true := by simp [divOk]; left; omega
    have hL : L ≠ 0 := by omega
    refine seq_cut (fun ρ => ∃ c1 x2, ρ = [some (dk c1), some (.val (.int L)), x2, none, none]) ?_ ?_
    · by_cases hv : c.v = 0
      · by_cases hj : c.j < c.cells.length
        · have hx := ix_il (l := c.cells) (n := c.j) (x := c.cells[c.j]) (by simp [hj])
          generalize c.cells[c.j] = x at hx
          by_cases hc : (1000000000000000000 : Int) ≤ x
          · refine md_nx (by simp [-Fl.rt.injEq, -Fl.nx.injEq, -Fl.er.injEq, -Fl.bk.injEq, -Fl.ct.injEq, -Res.ok.injEq, -List.cons.injEq, -Option.some.injEq, -Prod.mk.injEq, -O.val.injEq, -D.int.injEq, -D.nd.injEq, -List.getD_eq_getElem?_getD, -List.map_replicate, -List.map_take, -List.map_drop, -List.map_map, -List.map_append, -List.map_reverse, dk, hv, ltDv, geDv, hj, hx, abs_nat, v_mul, v_mod, mulS, pow18, pow60, mul60, hc] <;> rfl) ?_
            exact ⟨⟨c.cells, c.j + 1, _, _⟩, _, rfl⟩
          · refine md_nx (by simp [-Fl.rt.injEq, -Fl.nx.injEq, -Fl.er.injEq, -Fl.bk.injEq, -Fl.ct.injEq, -Res.ok.injEq, -List.cons.injEq, -Option.some.injEq, -Prod.mk.injEq, -O.val.injEq, -D.int.injEq, -D.nd.injEq, -List.getD_eq_getElem?_getD, -List.map_replicate, -List.map_take, -List.map_drop, -List.map_map, -List.map_append, -List.map_reverse, dk, hv, ltDv, geDv, hj, hx, abs_nat, v_mul, v_mod, mulS, pow18, pow60, mul60, hc] <;> rfl) ?_
            exact ⟨⟨c.cells, c.j + 1, _, _⟩, _, rfl⟩
        · refine md_nx (by simp [-Fl.rt.injEq, -Fl.nx.injEq, -Fl.er.injEq, -Fl.bk.injEq, -Fl.ct.injEq, -Res.ok.injEq, -List.cons.injEq, -Option.some.injEq, -Prod.mk.injEq, -O.val.injEq, -D.int.injEq, -D.nd.injEq, -List.getD_eq_getElem?_getD, -List.map_replicate, -List.map_take, -List.map_drop, -List.map_map, -List.map_append, -List.map_reverse, dk, hv, ltDv, hj] <;> rfl) ?_
          exact ⟨⟨c.cells, c.j, 0, c.m⟩, _, rfl⟩
      · refine md_nx (by simp [-Fl.rt.injEq, -Fl.nx.injEq, -Fl.er.injEq, -Fl.bk.injEq, -Fl.ct.injEq, -Res.ok.injEq, -List.cons.injEq, -Option.some.injEq, -Prod.mk.injEq, -O.val.injEq, -D.int.injEq, -D.nd.injEq, -List.getD_eq_getElem?_getD, -List.map_replicate, -List.map_take, -List.map_drop, -List.map_map, -List.map_append, -List.map_reverse, dk, hv] <;> rfl) ?_
        exact ⟨c, _, rfl⟩
    · rintro _ ⟨c, x2, rfl⟩
      by_cases hv : 0 < c.v
      · obtain ⟨r1, r2⟩ := @fmod_lt c.v L h0
        refine seq_rt (by simp [-Fl.rt.injEq, -Fl.nx.injEq, -Fl.er.injEq, -Fl.bk.injEq, -Fl.ct.injEq, -Res.ok.injEq, -List.cons.injEq, -Option.some.injEq, -Prod.mk.injEq, -O.val.injEq, -D.int.injEq, -D.nd.injEq, -List.getD_eq_getElem?_getD, -List.map_replicate, -List.map_take, -List.map_drop, -List.map_map, -List.map_append, -List.map_reverse, dk, gtDv, hv, v_mod hL, v_div hd] <;> rfl) ?_
        exact ⟨(c.v.fmod L).toNat, ⟨c.cells, c.j, c.v.fdiv L, c.m⟩, by omega, by congr 2; omega, rfl⟩
      · refine seq_nx (by simp [-Fl.rt.injEq, -Fl.nx.injEq, -Fl.er.injEq, -Fl.bk.injEq, -Fl.ct.injEq, -Res.ok.injEq, -List.cons.injEq, -Option.some.injEq, -Prod.mk.injEq, -O.val.injEq, -D.int.injEq, -D.nd.injEq, -List.getD_eq_getElem?_getD, -List.map_replicate, -List.map_take, -List.map_drop, -List.map_map, -List.map_append, -List.map_reverse, dk, gtDv, hv] <;> rfl) ?_
        refine seq_nx (by simp [-Fl.rt.injEq, -Fl.nx.injEq, -Fl.er.injEq, -Fl.bk.injEq, -Fl.ct.injEq, -Res.ok.injEq, -List.cons.injEq, -Option.some.injEq, -Prod.mk.injEq, -O.val.injEq, -D.int.injEq, -D.nd.injEq, -List.getD_eq_getElem?_getD, -List.map_replicate, -List.map_take, -List.map_drop, -List.map_map, -List.map_append, -List.map_reverse, v_mul, mulS, v_mod] <;> rfl) ?_
        generalize e1 : (c.m * 40692 + 3791).fmod 2147483399 = a1
        have b1 := @fmod_lt (c.m * 40692 + 3791) 2147483399 (by decide)
        rw [e1] at b1
        have m1 := @mulS a1 a1 (by omega)
        refine seq_nx (by simp [-Fl.rt.injEq, -Fl.nx.injEq, -Fl.er.injEq, -Fl.bk.injEq, -Fl.ct.injEq, -Res.ok.injEq, -List.cons.injEq, -Option.some.injEq, -Prod.mk.injEq, -O.val.injEq, -D.int.injEq, -D.nd.injEq, -List.getD_eq_getElem?_getD, -List.map_replicate, -List.map_take, -List.map_drop, -List.map_map, -List.map_append, -List.map_reverse, v_mul, mulS, v_mod, m1, v_div, show divOk 13 = true from by decide] <;> rfl) ?_
        generalize (a1 * a1 + a1.fdiv 13 + (c.j : Int) * 69621).fmod 2147483647 = a2
        obtain ⟨r1, r2⟩ := @fmod_lt (a2.fdiv 11) L h0
        refine q_rt (by simp [-Fl.rt.injEq, -Fl.nx.injEq, -Fl.er.injEq, -Fl.bk.injEq, -Fl.ct.injEq, -Res.ok.injEq, -List.cons.injEq, -Option.some.injEq, -Prod.mk.injEq, -O.val.injEq, -D.int.injEq, -D.nd.injEq, -List.getD_eq_getElem?_getD, -List.map_replicate, -List.map_take, -List.map_drop, -List.map_map, -List.map_append, -List.map_reverse, v_mod hL, v_div, show divOk 11 = true from by decide] <;> rfl) ?_
        exact ⟨((a2.fdiv 11).fmod L).toNat, ⟨c.cells, c.j, c.v, a1⟩, by omega, by congr 2; omega, rfl⟩
  obtain ⟨_, _, e, r, c', h, rfl, rfl⟩ := key
  exact ⟨r, c', h, e⟩
end L52
set_option Elab.async false
set_option maxRecDepth 100000
set_option linter.all false
namespace L52
open PySem L2 Y
/-! ### noughts behind -/
def trim (l : List Int) : List Int := (l.reverse.dropWhile fun x => x == 0).reverse
theorem trim_nil : trim [] = [] := rfl
theorem trim_0 {l : List Int} : trim (l ++ [0]) = trim l := by simp [trim]
theorem trim_x {l : List Int} {x : Int} (h : x ≠ 0) : trim (l ++ [x]) = l ++ [x] := by simp [trim, h]
theorem last_split {l : List Int} {k : Nat} (h : k < l.length) : l.take (k + 1) = l.take k ++ [l[k]] := by
  rw [List.take_add_one]; simp [h]
theorem w_trimmed {l : List Int} (hl : l.length ≤ 1000000) : F_trimmed [.val (il l)] = .ok (.val (iw (trim l)), .val .non) := by
  unfold F_trimmed
  refine fn_V ?_
  unfold m_trimmed
  refine seq_nx (by simp [-Fl.rt.injEq, -Fl.nx.injEq, -Fl.er.injEq, -Fl.bk.injEq, -Fl.ct.injEq, -Res.ok.injEq, -List.cons.injEq, -Option.some.injEq, -Prod.mk.injEq, -O.val.injEq, -D.int.injEq, -D.nd.injEq, -List.getD_eq_getElem?_getD, -List.map_replicate, -List.map_take, -List.map_drop, -List.map_map, -List.map_append, -List.map_reverse] <;> rfl) ?_
  refine seq_while (fun k ρ => k ≤ l.length ∧ trim (l.take k) = trim l ∧ ρ = [some (.val (il l)), some (.val (.int (k : Int)))]) ?_ (k := l.length) (by omega) ⟨Nat.le_refl _, by simp, rfl⟩
  rintro k ρ ⟨hk, ht, rfl⟩
  cases k with
  | zero =>
    left
    refine ⟨_, (by simp [-Fl.rt.injEq, -Fl.nx.injEq, -Fl.er.injEq, -Fl.bk.injEq, -Fl.ct.injEq, -Res.ok.injEq, -List.cons.injEq, -Option.some.injEq, -Prod.mk.injEq, -O.val.injEq, -D.int.injEq, -D.nd.injEq, -List.getD_eq_getElem?_getD, -List.map_replicate, -List.map_take, -List.map_drop, -List.map_map, -List.map_append, -List.map_reverse, gtDv] <;> rfl), ?_⟩
    have hc : cutL none (some (0 : Int)) (il l) = some ((l.take 0).map .int) := cutL_lo
    refine q_rt (by simp [-Fl.rt.injEq, -Fl.nx.injEq, -Fl.er.injEq, -Fl.bk.injEq, -Fl.ct.injEq, -Res.ok.injEq, -List.cons.injEq, -Option.some.injEq, -Prod.mk.injEq, -O.val.injEq, -D.int.injEq, -D.nd.injEq, -List.getD_eq_getElem?_getD, -List.map_replicate, -List.map_take, -List.map_drop, -List.map_map, -List.map_append, -List.map_reverse, mcutL, mpart, hc] <;> rfl) ?_
    show _ = _
    simp [trim_nil] at ht
    rw [ht]
  | succ k =>
    have hx := ix_il (l := l) (n := k) (x := l[k]) (by simp [show k < l.length by omega])
    have e1 : (((k + 1 : Nat) : Int) - 1) = (k : Int) := by omega
    by_cases h0 : l[k] = 0
    · right
      refine ⟨_, (by simp [-Fl.rt.injEq, -Fl.nx.injEq, -Fl.er.injEq, -Fl.bk.injEq, -Fl.ct.injEq, -Res.ok.injEq, -List.cons.injEq, -Option.some.injEq, -Prod.mk.injEq, -O.val.injEq, -D.int.injEq, -D.nd.injEq, -List.getD_eq_getElem?_getD, -List.map_replicate, -List.map_take, -List.map_drop, -List.map_map, -List.map_append, -List.map_reverse, gtDv, e1, hx, h0, show (0 : Int) < ((k + 1 : Nat) : Int) by omega] <;> rfl), ?_⟩
      refine lp_nx (by simp [-Fl.rt.injEq, -Fl.nx.injEq, -Fl.er.injEq, -Fl.bk.injEq, -Fl.ct.injEq, -Res.ok.injEq, -List.cons.injEq, -Option.some.injEq, -Prod.mk.injEq, -O.val.injEq, -D.int.injEq, -D.nd.injEq, -List.getD_eq_getElem?_getD, -List.map_replicate, -List.map_take, -List.map_drop, -List.map_map, -List.map_append, -List.map_reverse, e1] <;> rfl) ?_
      refine ⟨k, by omega, by omega, ?_, rfl⟩
      rw [last_split (by omega), h0, trim_0] at ht
      exact ht
    · left
      refine ⟨_, (by simp [-Fl.rt.injEq, -Fl.nx.injEq, -Fl.er.injEq, -Fl.bk.injEq, -Fl.ct.injEq, -Res.ok.injEq, -List.cons.injEq, -Option.some.injEq, -Prod.mk.injEq, -O.val.injEq, -D.int.injEq, -D.nd.injEq, -List.getD_eq_getElem?_getD, -List.map_replicate, -List.map_take, -List.map_drop, -List.map_map, -List.map_append, -List.map_reverse, gtDv, e1, hx, h0, show (0 : Int) < ((k + 1 : Nat) : Int) by omega] <;> rfl), ?_⟩
      have hc : cutL none (some ((k : Int) + 1)) (il l) = some ((l.take (k + 1)).map .int) := cutL_lo (n := k + 1)
      refine q_rt (by simp [-Fl.rt.injEq, -Fl.nx.injEq, -Fl.er.injEq, -Fl.bk.injEq, -Fl.ct.injEq, -Res.ok.injEq, -List.cons.injEq, -Option.some.injEq, -Prod.mk.injEq, -O.val.injEq, -D.int.injEq, -D.nd.injEq, -List.getD_eq_getElem?_getD, -List.map_replicate, -List.map_take, -List.map_drop, -List.map_map, -List.map_append, -List.map_reverse, mcutL, mpart, hc] <;> rfl) ?_
      show _ = _
      rw [last_split (by omega), trim_x h0, ← last_split (by omega)] at ht
      rw [← ht]
/-! ### is_polynomial -/
def isInt : D → Bool
  | .int _ => true
  | _ => false
def lastOk (ds : List D) : Bool := match ds.getLast? with
  | some (.int i) => decide (i ≠ 0)
  | _ => true
def polyB : D → Bool
  | .nd .tup ds => ds.all isInt && lastOk ds
  | _ => false
/-- data whose parts are plain -/
def Pz (d : D) : Prop := plainH d = true ∧ ∀ k ds, d = .nd k ds → (∀ e ∈ ds, plainH e = true) ∧ ds.length ≤ 1000
theorem w_is_integer {d : D} (h : plainH d = true) : F_is_integer [.val d] = .ok (.val (.bl (isInt d)), .val .non) := by
  refine plainH_cases (p := fun d => F_is_integer [.val d] = .ok (.val (.bl (isInt d)), .val .non)) ?_ ?_ ?_ ?_ ?_ ?_ d h
  all_goals intros; unfold F_is_integer; refine fn_V ?_; unfold m_is_integer; refine q_rt (by simp [-Fl.rt.injEq, -Fl.nx.injEq, -Fl.er.injEq, -Fl.bk.injEq, -Fl.ct.injEq, -Res.ok.injEq, -List.cons.injEq, -Option.some.injEq, -Prod.mk.injEq, -O.val.injEq, -D.int.injEq, -D.nd.injEq, -List.getD_eq_getElem?_getD, -List.map_replicate, -List.map_take, -List.map_drop, -List.map_map, -List.map_append, -List.map_reverse] <;> rfl) ?_; rfl
theorem all_ints : ∀ {ds : List D}, (∀ d ∈ ds, isInt d = true) → ∃ l : List Int, ds = l.map .int
  | [], _ => ⟨[], rfl⟩
  | d :: ds, h => by
    obtain ⟨l, rfl⟩ := all_ints (ds := ds) fun e he => h e (by simp [he])
    have h1 := h d (by simp)
    cases d with
    | int i => exact ⟨i :: l, rfl⟩
    | _ => simp [isInt] at h1
theorem atI_neg {α : Type} {xs : List α} : L2.atI xs (-1) = xs.getLast? := atI_neg1
theorem w_is_poly {d : D} (h : Pz d) : F_is_polynomial [.val d] = .ok (.val (.bl (polyB d)), .val .non) := by
  have other : ∀ d : D, isiD "tuple" d = some (.bl false) → polyB d = false → F_is_polynomial [.val d] = .ok (.val (.bl (polyB d)), .val .non) := by
    intro d h1 h2
    unfold F_is_polynomial
    refine fn_V ?_
    unfold m_is_polynomial
    refine seq_rt (by simp [-Fl.rt.injEq, -Fl.nx.injEq, -Fl.er.injEq, -Fl.bk.injEq, -Fl.ct.injEq, -Res.ok.injEq, -List.cons.injEq, -Option.some.injEq, -Prod.mk.injEq, -O.val.injEq, -D.int.injEq, -D.nd.injEq, -List.getD_eq_getElem?_getD, -List.map_replicate, -List.map_take, -List.map_drop, -List.map_map, -List.map_append, -List.map_reverse, h1] <;> rfl) ?_
    rw [h2]; rfl
  refine plainH_cases (p := fun d => Pz d → F_is_polynomial [.val d] = .ok (.val (.bl (polyB d)), .val .non)) ?_ ?_ ?_ ?_ ?_ ?_ d h.1 h
  · exact fun _ => other _ (by simp) rfl
  · exact fun _ _ => other _ (by simp) rfl
  · exact fun _ _ => other _ (by simp) rfl
  · exact fun _ _ => other _ (by simp) rfl
  · intro ds hz
    obtain ⟨hz, hl⟩ := hz.2 _ _ rfl
    unfold F_is_polynomial
    refine fn_V ?_
    unfold m_is_polynomial
    refine seq_nx (by simp [-Fl.rt.injEq, -Fl.nx.injEq, -Fl.er.injEq, -Fl.bk.injEq, -Fl.ct.injEq, -Res.ok.injEq, -List.cons.injEq, -Option.some.injEq, -Prod.mk.injEq, -O.val.injEq, -D.int.injEq, -D.nd.injEq, -List.getD_eq_getElem?_getD, -List.map_replicate, -List.map_take, -List.map_drop, -List.map_map, -List.map_append, -List.map_reverse] <;> rfl) ?_
    refine seq_for (ds := ds) (ρ1 := [some (.val (.nd .tup ds)), none]) (fun k ρ => (ds.take k).all isInt = true ∧ ∃ x, ρ = [some (.val (.nd .tup ds)), x]) (by simp [-Fl.rt.injEq, -Fl.nx.injEq, -Fl.er.injEq, -Fl.bk.injEq, -Fl.ct.injEq, -Res.ok.injEq, -List.cons.injEq, -Option.some.injEq, -Prod.mk.injEq, -O.val.injEq, -D.int.injEq, -D.nd.injEq, -List.getD_eq_getElem?_getD, -List.map_replicate, -List.map_take, -List.map_drop, -List.map_map, -List.map_append, -List.map_reverse] <;> rfl) ⟨by simp, _, rfl⟩ ?_ ?_
    · rintro k d ρ hd ⟨ha, x, rfl⟩
      refine ⟨_, rfl, ?_⟩
      have hm : d ∈ ds := List.mem_of_getElem? hd
      have hi := w_is_integer (hz d hm)
      cases hb : isInt d with
      | true =>
        rw [hb] at hi
        refine lp_nx (by simp [-Fl.rt.injEq, -Fl.nx.injEq, -Fl.er.injEq, -Fl.bk.injEq, -Fl.ct.injEq, -Res.ok.injEq, -List.cons.injEq, -Option.some.injEq, -Prod.mk.injEq, -O.val.injEq, -D.int.injEq, -D.nd.injEq, -List.getD_eq_getElem?_getD, -List.map_replicate, -List.map_take, -List.map_drop, -List.map_map, -List.map_append, -List.map_reverse, hi] <;> rfl) ?_
        refine ⟨?_, _, rfl⟩
        rw [List.take_add_one, hd]
        simp only [Option.toList, List.all_append, ha, List.all_cons, hb, List.all_nil, Bool.and_self]
      | false =>
        rw [hb] at hi
        refine lp_rt (by simp [-Fl.rt.injEq, -Fl.nx.injEq, -Fl.er.injEq, -Fl.bk.injEq, -Fl.ct.injEq, -Res.ok.injEq, -List.cons.injEq, -Option.some.injEq, -Prod.mk.injEq, -O.val.injEq, -D.int.injEq, -D.nd.injEq, -List.getD_eq_getElem?_getD, -List.map_replicate, -List.map_take, -List.map_drop, -List.map_map, -List.map_append, -List.map_reverse, hi] <;> rfl) ?_
        show _ = _
        have : ds.all isInt = false := by
          rw [List.all_eq_false]; exact ⟨d, hm, by simp [hb]⟩
        simp [polyB, this]
    · rintro ρ ⟨ha, x, rfl⟩
      rw [List.take_length] at ha
      obtain ⟨l, rfl⟩ := all_ints (by simpa using ha)
      cases hg : l.getLast? with
      | none =>
        have : l = [] := by simpa using hg
        subst this
        refine q_rt (by simp [-Fl.rt.injEq, -Fl.nx.injEq, -Fl.er.injEq, -Fl.bk.injEq, -Fl.ct.injEq, -Res.ok.injEq, -List.cons.injEq, -Option.some.injEq, -Prod.mk.injEq, -O.val.injEq, -D.int.injEq, -D.nd.injEq, -List.getD_eq_getElem?_getD, -List.map_replicate, -List.map_take, -List.map_drop, -List.map_map, -List.map_append, -List.map_reverse] <;> rfl) ?_
        rfl
      | some y =>
        have hne : l ≠ [] := by intro z; subst z; simp at hg
        have hx : ixD (iw l) (.int (-1)) = some (.int y) := by
          show (L2.atI _ _) = _
          rw [atI_neg, last_ints, hg]; rfl
        have hlen : ¬ ((l.length : Int) = 0) := by
          have := List.length_pos_iff.mpr hne
          omega
        refine q_rt (by simp [-Fl.rt.injEq, -Fl.nx.injEq, -Fl.er.injEq, -Fl.bk.injEq, -Fl.ct.injEq, -Res.ok.injEq, -List.cons.injEq, -Option.some.injEq, -Prod.mk.injEq, -O.val.injEq, -D.int.injEq, -D.nd.injEq, -List.getD_eq_getElem?_getD, -List.map_replicate, -List.map_take, -List.map_drop, -List.map_map, -List.map_append, -List.map_reverse, hx, hlen, hne] <;> rfl) ?_
        show _ = _
        simp only [polyB, ha, Bool.true_and, lastOk, last_ints, hg, Option.map]
        simp
  · exact fun _ _ => other _ (by simp) rfl
theorem poly_iw {l : List Int} : polyB (iw l) = true ↔ l.getLast? ≠ some 0 := by
  have ha : (l.map D.int).all isInt = true := by simp [isInt]
  simp only [polyB, iw, ha, Bool.true_and, lastOk, last_ints]
  cases l.getLast? with
  | none => simp
  | some x => simp
theorem pz_iw {l : List Int} (h : l.length ≤ 1000) : Pz (iw l) := ⟨rfl, fun k ds e => by cases e; exact ⟨fun e he => by obtain ⟨i, _, rfl⟩ := List.mem_map.mp he; rfl, by simpa using h⟩⟩
/-- the trimmed rows -/
theorem trim_last {l : List Int} : (trim l).getLast? ≠ some 0 := by
  unfold trim
  rw [List.getLast?_reverse]
  intro h
  have := List.head?_dropWhile_not (fun x : Int => x == 0) l.reverse
  rw [h] at this
  simp at this
theorem trim_id {l : List Int} (h : l.getLast? ≠ some 0) : trim l = l := by
  rcases List.eq_nil_or_concat l with rfl | ⟨a, x, rfl⟩
  · rfl
  · simp at h
    simpa using trim_x h
theorem trim_len {l : List Int} : (trim l).length ≤ l.length := by
  unfold trim
  rw [List.length_reverse]
  have := (List.dropWhile_sublist (fun x : Int => x == 0) (l := l.reverse)).length_le
  simpa using this
theorem trim_mem {l : List Int} {x : Int} (h : x ∈ trim l) : x ∈ l := by
  unfold trim at h
  rw [List.mem_reverse] at h
  have := (List.dropWhile_sublist (fun x : Int => x == 0) (l := l.reverse)).subset h
  simpa using this
theorem trim_trim {l : List Int} : trim (trim l) = trim l := trim_id trim_last
end L52
set_option Elab.async false
set_option maxRecDepth 100000
set_option linter.all false
namespace L52
open PySem L2 Y
/-! ### sums -/
def sm (s : Int) (a b : List Int) : List Int := tbl (max a.length b.length) fun n => a.getD n 0 + s * b.getD n 0
def neg (a : List Int) : List Int := a.map fun x => -x
theorem w_negative {a : List Int} (hl : a.length ≤ 1000) : F_negative [.val (iw a)] = .ok (.val (iw (neg a)), .val .non) := by
  unfold F_negative
  refine fn_V ?_
  unfold m_negative
  generalize hc : mcomp _ _ _ _ _ = C
  have h : C _ = _ := hc ▸ mcomp_map (v := 1) (i := iseq (rd 0)) (f := m1 negD (rd 1)) (g := fun d => match d with | .int i => .int (-i) | x => x) (ds := a.map .int) (ρ := [some (.val (iw a)), none]) (by simp [-Fl.rt.injEq, -Fl.nx.injEq, -Fl.er.injEq, -Fl.bk.injEq, -Fl.ct.injEq, -Res.ok.injEq, -List.cons.injEq, -Option.some.injEq, -Prod.mk.injEq, -O.val.injEq, -D.int.injEq, -D.nd.injEq, -List.getD_eq_getElem?_getD, -List.map_replicate, -List.map_take, -List.map_drop, -List.map_map, -List.map_append, -List.map_reverse] <;> rfl) rfl (by simpa using small (by omega)) (by
    intro d hd
    obtain ⟨i, _, rfl⟩ := List.mem_map.mp hd
    exact (by simp [-Fl.rt.injEq, -Fl.nx.injEq, -Fl.er.injEq, -Fl.bk.injEq, -Fl.ct.injEq, -Res.ok.injEq, -List.cons.injEq, -Option.some.injEq, -Prod.mk.injEq, -O.val.injEq, -D.int.injEq, -D.nd.injEq, -List.getD_eq_getElem?_getD, -List.map_replicate, -List.map_take, -List.map_drop, -List.map_map, -List.map_append, -List.map_reverse] <;> rfl))
  have e : (a.map D.int).map (fun d => match d with | .int i => D.int (-i) | x => x) = (neg a).map .int := by simp [neg]
  rw [e] at h
  refine q_rt (by simp [-Fl.rt.injEq, -Fl.nx.injEq, -Fl.er.injEq, -Fl.bk.injEq, -Fl.ct.injEq, -Res.ok.injEq, -List.cons.injEq, -Option.some.injEq, -Prod.mk.injEq, -O.val.injEq, -D.int.injEq, -D.nd.injEq, -List.getD_eq_getElem?_getD, -List.map_replicate, -List.map_take, -List.map_drop, -List.map_map, -List.map_append, -List.map_reverse, h] <;> rfl) ?_
  rfl
theorem getD_get {a : List Int} {k : Nat} {x : Int} (h : a[k]? = some x) : a.getD k 0 = x := by simp [h]
theorem w_sum {a b : List Int} (ha : a.length ≤ 1000) (hb : b.length ≤ 1000) : F_sum_of [.val (iw a), .val (iw b)] = .ok (.val (iw (trim (sm 1 a b))), .val .non) := by
  unfold F_sum_of
  refine fn_V ?_
  unfold m_sum_of
  have hN : max a.length b.length ≤ 16777216 := by omega
  generalize hN' : max a.length b.length = N at hN
  have hr : (List.replicate N (D.int 0)) = (tbl N fun _ => (0 : Int)).map .int := by rw [tbl_map, tbl_rep]
  refine seq_nx (by simp [-Fl.rt.injEq, -Fl.nx.injEq, -Fl.er.injEq, -Fl.bk.injEq, -Fl.ct.injEq, -Res.ok.injEq, -List.cons.injEq, -Option.some.injEq, -Prod.mk.injEq, -O.val.injEq, -D.int.injEq, -D.nd.injEq, -List.getD_eq_getElem?_getD, -List.map_replicate, -List.map_take, -List.map_drop, -List.map_map, -List.map_append, -List.map_reverse, hN', v_rep hN, hr] <;> rfl) ?_
  refine seq_for (ds := enumL (a.map .int)) (ρ1 := [some (.val (iw a)), some (.val (iw b)), some (nl ((tbl N fun _ => (0 : Int)).map .int)), none, none])
    (fun k ρ => ∃ x3 x4, ρ = [some (.val (iw a)), some (.val (iw b)), some (nl ((tbl N fun n => if n < k then a.getD n 0 else 0).map .int)), x3, x4]) (by simp [-Fl.rt.injEq, -Fl.nx.injEq, -Fl.er.injEq, -Fl.bk.injEq, -Fl.ct.injEq, -Res.ok.injEq, -List.cons.injEq, -Option.some.injEq, -Prod.mk.injEq, -O.val.injEq, -D.int.injEq, -D.nd.injEq, -List.getD_eq_getElem?_getD, -List.map_replicate, -List.map_take, -List.map_drop, -List.map_map, -List.map_append, -List.map_reverse] <;> rfl) ⟨none, none, by simp⟩ ?_ ?_
  · rintro k d ρ hd ⟨x3, x4, rfl⟩
    obtain ⟨d, hd2, rfl⟩ := enum_get hd
    obtain ⟨x, hx, rfl⟩ := ints_get hd2
    have hk : k < a.length := (List.getElem?_eq_some_iff.mp hx).1
    refine ⟨_, (by simp [-Fl.rt.injEq, -Fl.nx.injEq, -Fl.er.injEq, -Fl.bk.injEq, -Fl.ct.injEq, -Res.ok.injEq, -List.cons.injEq, -Option.some.injEq, -Prod.mk.injEq, -O.val.injEq, -D.int.injEq, -D.nd.injEq, -List.getD_eq_getElem?_getD, -List.map_replicate, -List.map_take, -List.map_drop, -List.map_map, -List.map_append, -List.map_reverse] <;> rfl), ?_⟩
    have hs : ((tbl N fun n => if n < k then a.getD n 0 else 0).map D.int).set k (D.int x) = (tbl N fun n => if n < k + 1 then a.getD n 0 else 0).map D.int := by
      rw [← List.map_set, tbl_set (by omega)]
      congr 1
      refine tbl_ext fun n hn => ?_
      by_cases e : n = k
      · subst e; simp [hx]
      · rw [if_neg e]
        by_cases h2 : n < k
        · rw [if_pos h2, if_pos (by omega)]
        · rw [if_neg h2, if_neg (by omega)]
    refine lp_nx (by simp [-Fl.rt.injEq, -Fl.nx.injEq, -Fl.er.injEq, -Fl.bk.injEq, -Fl.ct.injEq, -Res.ok.injEq, -List.cons.injEq, -Option.some.injEq, -Prod.mk.injEq, -O.val.injEq, -D.int.injEq, -D.nd.injEq, -List.getD_eq_getElem?_getD, -List.map_replicate, -List.map_take, -List.map_drop, -List.map_map, -List.map_append, -List.map_reverse, ixN_nat (show k < N by omega), hs] <;> rfl) ?_
    exact ⟨_, _, rfl⟩
  rintro _ ⟨x3, x4, rfl⟩
  refine seq_for (ds := enumL (b.map .int)) (ρ1 := [some (.val (iw a)), some (.val (iw b)), some (nl ((tbl N fun n => if n < (enumL (a.map D.int)).length then a.getD n 0 else 0).map .int)), x3, x4])
    (fun k ρ => ∃ x3 x4, ρ = [some (.val (iw a)), some (.val (iw b)), some (nl ((tbl N fun n => a.getD n 0 + if n < k then b.getD n 0 else 0).map .int)), x3, x4]) (by simp [-Fl.rt.injEq, -Fl.nx.injEq, -Fl.er.injEq, -Fl.bk.injEq, -Fl.ct.injEq, -Res.ok.injEq, -List.cons.injEq, -Option.some.injEq, -Prod.mk.injEq, -O.val.injEq, -D.int.injEq, -D.nd.injEq, -List.getD_eq_getElem?_getD, -List.map_replicate, -List.map_take, -List.map_drop, -List.map_map, -List.map_append, -List.map_reverse] <;> rfl) ⟨x3, x4, ?_⟩ ?_ ?_
  · congr 6
    refine tbl_ext fun n hn => ?_
    simp
    intro h2
    rw [List.getElem?_eq_none (by omega)]; rfl
  · rintro k d ρ hd ⟨x3, x4, rfl⟩
    obtain ⟨d, hd2, rfl⟩ := enum_get hd
    obtain ⟨x, hx, rfl⟩ := ints_get hd2
    have hk : k < b.length := (List.getElem?_eq_some_iff.mp hx).1
    have hg := atI_ints (tbl_get (f := fun n => a.getD n 0 + if n < k then b.getD n 0 else 0) (show k < N by omega))
    refine ⟨_, (by simp [-Fl.rt.injEq, -Fl.nx.injEq, -Fl.er.injEq, -Fl.bk.injEq, -Fl.ct.injEq, -Res.ok.injEq, -List.cons.injEq, -Option.some.injEq, -Prod.mk.injEq, -O.val.injEq, -D.int.injEq, -D.nd.injEq, -List.getD_eq_getElem?_getD, -List.map_replicate, -List.map_take, -List.map_drop, -List.map_map, -List.map_append, -List.map_reverse] <;> rfl), ?_⟩
    have hs : ((tbl N fun n => a.getD n 0 + if n < k then b.getD n 0 else 0).map D.int).set k (D.int (a.getD k 0 + x)) = (tbl N fun n => a.getD n 0 + if n < k + 1 then b.getD n 0 else 0).map D.int := by
      rw [← List.map_set, tbl_set (by omega)]
      congr 1
      refine tbl_ext fun n hn => ?_
      by_cases e : n = k
      · subst e; simp [hx]
      · rw [if_neg e]
        by_cases h2 : n < k
        · rw [if_pos h2, if_pos (by omega)]
        · rw [if_neg h2, if_neg (by omega)]
    have hg' : L2.atI ((tbl N fun n => a.getD n 0 + if n < k then b.getD n 0 else 0).map D.int) (k : Int) = some (.int (a.getD k 0)) := by rw [hg]; simp
    refine lp_nx (by simp [-Fl.rt.injEq, -Fl.nx.injEq, -Fl.er.injEq, -Fl.bk.injEq, -Fl.ct.injEq, -Res.ok.injEq, -List.cons.injEq, -Option.some.injEq, -Prod.mk.injEq, -O.val.injEq, -D.int.injEq, -D.nd.injEq, -List.getD_eq_getElem?_getD, -List.map_replicate, -List.map_take, -List.map_drop, -List.map_map, -List.map_append, -List.map_reverse, ixN_nat (show k < N by omega), hg', hs] <;> rfl) ?_
    exact ⟨_, _, rfl⟩
  · rintro _ ⟨x3, x4, rfl⟩
    have e : (tbl N fun n => a.getD n 0 + if n < (enumL (b.map D.int)).length then b.getD n 0 else 0) = sm 1 a b := by
      unfold sm
      rw [hN']
      refine tbl_ext fun n hn => ?_
      simp only [enumL_len, List.length_map, Int.one_mul]
      by_cases h2 : n < b.length
      · rw [if_pos h2]
      · rw [if_neg h2]; simp [List.getElem?_eq_none (show b.length ≤ n by omega)]
    rw [e]
    have ht := w_trimmed (l := sm 1 a b) (by simp [sm]; omega)
    refine q_rt (by simp [-Fl.rt.injEq, -Fl.nx.injEq, -Fl.er.injEq, -Fl.bk.injEq, -Fl.ct.injEq, -Res.ok.injEq, -List.cons.injEq, -Option.some.injEq, -Prod.mk.injEq, -O.val.injEq, -D.int.injEq, -D.nd.injEq, -List.getD_eq_getElem?_getD, -List.map_replicate, -List.map_take, -List.map_drop, -List.map_map, -List.map_append, -List.map_reverse, ht] <;> rfl) ?_
    rfl
/-! ### products -/
def prodL (a b : List Int) : List Int := (List.range a.length).foldl (fun F i => (List.range b.length).foldl (fun F j => F.set (i + j) (F.getD (i + j) 0 + a.getD i 0 * b.getD j 0)) F) (List.replicate (a.length + b.length - 1) 0)
def prod (a b : List Int) : List Int := if a = [] ∨ b = [] then [] else prodL a b
def inner (a b : List Int) (i : Nat) (F : List Int) (k : Nat) : List Int := (List.range k).foldl (fun F j => F.set (i + j) (F.getD (i + j) 0 + a.getD i 0 * b.getD j 0)) F
def outer (a b : List Int) (k : Nat) : List Int := (List.range k).foldl (fun F i => inner a b i F b.length) (List.replicate (a.length + b.length - 1) 0)
theorem inner_succ {a b : List Int} {i : Nat} {F : List Int} {k : Nat} : inner a b i F (k + 1) = (inner a b i F k).set (i + k) ((inner a b i F k).getD (i + k) 0 + a.getD i 0 * b.getD k 0) := by
  simp [inner, List.range_succ]
theorem outer_succ {a b : List Int} {k : Nat} : outer a b (k + 1) = inner a b k (outer a b k) b.length := by
  simp [outer, List.range_succ]
theorem inner_len {a b : List Int} {i : Nat} {F : List Int} : ∀ {k : Nat}, (inner a b i F k).length = F.length
  | 0 => rfl
  | k + 1 => by rw [inner_succ, List.length_set, inner_len]
theorem outer_len {a b : List Int} : ∀ {k : Nat}, (outer a b k).length = a.length + b.length - 1
  | 0 => by simp [outer]
  | k + 1 => by rw [outer_succ, inner_len, outer_len]
theorem outer_all {a b : List Int} : outer a b a.length = prodL a b := rfl
theorem getD_some {F : List Int} {k : Nat} (h : k < F.length) : F[k]? = some (F.getD k 0) := by simp [h]
structure Small (a : List Int) : Prop where
  l : a.length ≤ 100
  b : ∀ x ∈ a, x.natAbs < 2 ^ 120
theorem Small.get {a : List Int} (h : Small a) {k : Nat} {x : Int} (hx : a[k]? = some x) : x.natAbs < 2 ^ 120 := h.b x (List.mem_of_getElem? hx)
theorem w_product {a b : List Int} (ha : Small a) (hb : Small b) : F_product_of [.val (iw a), .val (iw b)] = .ok (.val (iw (prod a b)), .val .non) := by
  have hal := ha.l
  have hbl := hb.l
  unfold F_product_of
  refine fn_V ?_
  unfold m_product_of
  by_cases h0 : a = [] ∨ b = []
  · have hp : prod a b = [] := by simp [prod, h0]
    rcases h0 with rfl | rfl
    · refine seq_rt (by simp [-Fl.rt.injEq, -Fl.nx.injEq, -Fl.er.injEq, -Fl.bk.injEq, -Fl.ct.injEq, -Res.ok.injEq, -List.cons.injEq, -Option.some.injEq, -Prod.mk.injEq, -O.val.injEq, -D.int.injEq, -D.nd.injEq, -List.getD_eq_getElem?_getD, -List.map_replicate, -List.map_take, -List.map_drop, -List.map_map, -List.map_append, -List.map_reverse] <;> rfl) ?_
      rw [hp]; rfl
    · by_cases ha0 : a = []
      · subst ha0
        refine seq_rt (by simp [-Fl.rt.injEq, -Fl.nx.injEq, -Fl.er.injEq, -Fl.bk.injEq, -Fl.ct.injEq, -Res.ok.injEq, -List.cons.injEq, -Option.some.injEq, -Prod.mk.injEq, -O.val.injEq, -D.int.injEq, -D.nd.injEq, -List.getD_eq_getElem?_getD, -List.map_replicate, -List.map_take, -List.map_drop, -List.map_map, -List.map_append, -List.map_reverse] <;> rfl) ?_
        rw [hp]; rfl
      · refine seq_rt (by simp [-Fl.rt.injEq, -Fl.nx.injEq, -Fl.er.injEq, -Fl.bk.injEq, -Fl.ct.injEq, -Res.ok.injEq, -List.cons.injEq, -Option.some.injEq, -Prod.mk.injEq, -O.val.injEq, -D.int.injEq, -D.nd.injEq, -List.getD_eq_getElem?_getD, -List.map_replicate, -List.map_take, -List.map_drop, -List.map_map, -List.map_append, -List.map_reverse, ha0] <;> rfl) ?_
        rw [hp]; rfl
  · have hp : prod a b = prodL a b := by simp [prod, h0]
    rw [hp]
    rw [not_or] at h0
    have a1 := List.length_pos_iff.mpr h0.1
    have b1 := List.length_pos_iff.mpr h0.2
    refine seq_nx (by simp [-Fl.rt.injEq, -Fl.nx.injEq, -Fl.er.injEq, -Fl.bk.injEq, -Fl.ct.injEq, -Res.ok.injEq, -List.cons.injEq, -Option.some.injEq, -Prod.mk.injEq, -O.val.injEq, -D.int.injEq, -D.nd.injEq, -List.getD_eq_getElem?_getD, -List.map_replicate, -List.map_take, -List.map_drop, -List.map_map, -List.map_append, -List.map_reverse, h0.1, h0.2] <;> rfl) ?_
    have e1 : ((a.length : Int) + (b.length : Int) - 1) = ((a.length + b.length - 1 : Nat) : Int) := by omega
    have hN : a.length + b.length - 1 ≤ 16777216 := by omega
    have hr : (List.replicate (a.length + b.length - 1) (D.int 0)) = (outer a b 0).map .int := by simp [outer]
    refine seq_nx (by simp [-Fl.rt.injEq, -Fl.nx.injEq, -Fl.er.injEq, -Fl.bk.injEq, -Fl.ct.injEq, -Res.ok.injEq, -List.cons.injEq, -Option.some.injEq, -Prod.mk.injEq, -O.val.injEq, -D.int.injEq, -D.nd.injEq, -List.getD_eq_getElem?_getD, -List.map_replicate, -List.map_take, -List.map_drop, -List.map_map, -List.map_append, -List.map_reverse, e1, v_rep hN, hr] <;> rfl) ?_
    refine seq_for (ds := enumL (a.map .int)) (ρ1 := [some (.val (iw a)), some (.val (iw b)), some (nl ((outer a b 0).map .int)), none, none, none, none])
      (fun k ρ => ∃ x3 x4 x5 x6, ρ = [some (.val (iw a)), some (.val (iw b)), some (nl ((outer a b k).map .int)), x3, x4, x5, x6]) (by simp [-Fl.rt.injEq, -Fl.nx.injEq, -Fl.er.injEq, -Fl.bk.injEq, -Fl.ct.injEq, -Res.ok.injEq, -List.cons.injEq, -Option.some.injEq, -Prod.mk.injEq, -O.val.injEq, -D.int.injEq, -D.nd.injEq, -List.getD_eq_getElem?_getD, -List.map_replicate, -List.map_take, -List.map_drop, -List.map_map, -List.map_append, -List.map_reverse] <;> rfl) ⟨_, _, _, _, rfl⟩ ?_ ?_
    · rintro i d ρ hd ⟨x3, x4, x5, x6, rfl⟩
      obtain ⟨d, hd2, rfl⟩ := enum_get hd
      obtain ⟨x, hx, rfl⟩ := ints_get hd2
      have hi : i < a.length := (List.getElem?_eq_some_iff.mp hx).1
      refine ⟨_, (by simp [-Fl.rt.injEq, -Fl.nx.injEq, -Fl.er.injEq, -Fl.bk.injEq, -Fl.ct.injEq, -Res.ok.injEq, -List.cons.injEq, -Option.some.injEq, -Prod.mk.injEq, -O.val.injEq, -D.int.injEq, -D.nd.injEq, -List.getD_eq_getElem?_getD, -List.map_replicate, -List.map_take, -List.map_drop, -List.map_map, -List.map_append, -List.map_reverse] <;> rfl), ?_⟩
      refine sfor_ix (ds := enumL (b.map .int)) (ρ1 := [some (.val (iw a)), some (.val (iw b)), some (nl ((outer a b i).map .int)), some (.val (.int (i : Int))), some (.val (.int x)), x5, x6])
        (fun k ρ => ∃ x5 x6, ρ = [some (.val (iw a)), some (.val (iw b)), some (nl ((inner a b i (outer a b i) k).map .int)), some (.val (.int (i : Int))), some (.val (.int x)), x5, x6]) (by simp [-Fl.rt.injEq, -Fl.nx.injEq, -Fl.er.injEq, -Fl.bk.injEq, -Fl.ct.injEq, -Res.ok.injEq, -List.cons.injEq, -Option.some.injEq, -Prod.mk.injEq, -O.val.injEq, -D.int.injEq, -D.nd.injEq, -List.getD_eq_getElem?_getD, -List.map_replicate, -List.map_take, -List.map_drop, -List.map_map, -List.map_append, -List.map_reverse] <;> rfl) ⟨x5, x6, rfl⟩ ?_ ?_
      · rintro j d ρ hd ⟨x5, x6, rfl⟩
        obtain ⟨d, hd2, rfl⟩ := enum_get hd
        obtain ⟨y, hy, rfl⟩ := ints_get hd2
        have hj : j < b.length := (List.getElem?_eq_some_iff.mp hy).1
        have hl : (inner a b i (outer a b i) j).length = a.length + b.length - 1 := by rw [inner_len, outer_len]
        have hg := atI_ints (getD_some (F := inner a b i (outer a b i) j) (k := i + j) (by rw [hl]; omega))
        have hk : L2.ixN (a.length + b.length - 1) ((i : Int) + (j : Int)) = some (i + j) := ixN_nat (k := i + j) (by omega)
        have hm : mulOk x y = true := mulL (ha.get hx) (hb.get hy) (by decide)
        refine ⟨_, (by simp [-Fl.rt.injEq, -Fl.nx.injEq, -Fl.er.injEq, -Fl.bk.injEq, -Fl.ct.injEq, -Res.ok.injEq, -List.cons.injEq, -Option.some.injEq, -Prod.mk.injEq, -O.val.injEq, -D.int.injEq, -D.nd.injEq, -List.getD_eq_getElem?_getD, -List.map_replicate, -List.map_take, -List.map_drop, -List.map_map, -List.map_append, -List.map_reverse] <;> rfl), ?_⟩
        have hg' : L2.atI ((inner a b i (outer a b i) j).map D.int) ((i : Int) + (j : Int)) = some (.int ((inner a b i (outer a b i) j).getD (i + j) 0)) := hg
        have hs : ((inner a b i (outer a b i) j).map D.int).set (i + j) (D.int ((inner a b i (outer a b i) j).getD (i + j) 0 + x * y)) = (inner a b i (outer a b i) (j + 1)).map D.int := by
          rw [← List.map_set, inner_succ, getD_get hx, getD_get hy]
        refine lp_nx (by simp [-Fl.rt.injEq, -Fl.nx.injEq, -Fl.er.injEq, -Fl.bk.injEq, -Fl.ct.injEq, -Res.ok.injEq, -List.cons.injEq, -Option.some.injEq, -Prod.mk.injEq, -O.val.injEq, -D.int.injEq, -D.nd.injEq, -List.getD_eq_getElem?_getD, -List.map_replicate, -List.map_take, -List.map_drop, -List.map_map, -List.map_append, -List.map_reverse, hk, hg', v_mul hm, hl, hs] <;> rfl) ?_
        exact ⟨_, _, rfl⟩
      · rintro _ ⟨x5, x6, rfl⟩
        show ∃ x3 x4 x5 x6, _ = _
        rw [outer_succ, show (enumL (b.map D.int)).length = b.length by simp]
        exact ⟨_, _, _, _, rfl⟩
    · rintro _ ⟨x3, x4, x5, x6, rfl⟩
      rw [show (enumL (a.map D.int)).length = a.length by simp, outer_all]
      refine q_rt (by simp [-Fl.rt.injEq, -Fl.nx.injEq, -Fl.er.injEq, -Fl.bk.injEq, -Fl.ct.injEq, -Res.ok.injEq, -List.cons.injEq, -Option.some.injEq, -Prod.mk.injEq, -O.val.injEq, -D.int.injEq, -D.nd.injEq, -List.getD_eq_getElem?_getD, -List.map_replicate, -List.map_take, -List.map_drop, -List.map_map, -List.map_append, -List.map_reverse] <;> rfl) ?_
      rfl
end L52
set_option Elab.async false
set_option maxRecDepth 100000
set_option linter.all false
namespace L52
open PySem L2 Y
/-! ### what is asked -/
theorem w_look {ds : List D} (hz : ∀ d ∈ ds, Pz d) (hp : ∀ d ∈ ds, polyB d = true) : F_look_at_polynomials [.val (.nd .lst ds)] = .ok (.val .non, .val .non) := by
  unfold F_look_at_polynomials
  refine fn_V ?_
  unfold m_look_at_polynomials
  refine sfor_ix (ds := ds) (ρ1 := [some (.val (.nd .lst ds)), none]) (fun k ρ => ∃ x, ρ = [some (.val (.nd .lst ds)), x]) (by simp [-Fl.rt.injEq, -Fl.nx.injEq, -Fl.er.injEq, -Fl.bk.injEq, -Fl.ct.injEq, -Res.ok.injEq, -List.cons.injEq, -Option.some.injEq, -Prod.mk.injEq, -O.val.injEq, -D.int.injEq, -D.nd.injEq, -List.getD_eq_getElem?_getD, -List.map_replicate, -List.map_take, -List.map_drop, -List.map_map, -List.map_append, -List.map_reverse] <;> rfl) ⟨_, rfl⟩ ?_ ?_
  · rintro k d ρ hd ⟨x, rfl⟩
    have hm : d ∈ ds := List.mem_of_getElem? hd
    refine ⟨_, (by simp [-Fl.rt.injEq, -Fl.nx.injEq, -Fl.er.injEq, -Fl.bk.injEq, -Fl.ct.injEq, -Res.ok.injEq, -List.cons.injEq, -Option.some.injEq, -Prod.mk.injEq, -O.val.injEq, -D.int.injEq, -D.nd.injEq, -List.getD_eq_getElem?_getD, -List.map_replicate, -List.map_take, -List.map_drop, -List.map_map, -List.map_append, -List.map_reverse] <;> rfl), ?_⟩
    refine lp_nx (by simp [-Fl.rt.injEq, -Fl.nx.injEq, -Fl.er.injEq, -Fl.bk.injEq, -Fl.ct.injEq, -Res.ok.injEq, -List.cons.injEq, -Option.some.injEq, -Prod.mk.injEq, -O.val.injEq, -D.int.injEq, -D.nd.injEq, -List.getD_eq_getElem?_getD, -List.map_replicate, -List.map_take, -List.map_drop, -List.map_map, -List.map_append, -List.map_reverse, w_is_poly (hz d hm), hp d hm] <;> rfl) ?_
    exact ⟨_, rfl⟩
  · rintro ρ ⟨x, rfl⟩; rfl
theorem w_look_bad {pre post : List D} {b : D} (hz : ∀ d ∈ pre, Pz d) (hp : ∀ d ∈ pre, polyB d = true) (hb : Pz b) (hbp : polyB b = false) : F_look_at_polynomials [.val (.nd .lst (pre ++ b :: post))] = .er 3 [b] [] := by
  have key : ∃ c ds, F_look_at_polynomials [.val (.nd .lst (pre ++ b :: post))] = .er c ds [] ∧ c = 3 ∧ ds = [b] := by
    unfold F_look_at_polynomials
    refine fn_E ?_
    unfold m_look_at_polynomials
    refine sfor_ix (ds := pre ++ b :: post) (ρ1 := [some (.val (.nd .lst (pre ++ b :: post))), none]) (fun k ρ => k ≤ pre.length ∧ ∃ x, ρ = [some (.val (.nd .lst (pre ++ b :: post))), x]) (by simp [-Fl.rt.injEq, -Fl.nx.injEq, -Fl.er.injEq, -Fl.bk.injEq, -Fl.ct.injEq, -Res.ok.injEq, -List.cons.injEq, -Option.some.injEq, -Prod.mk.injEq, -O.val.injEq, -D.int.injEq, -D.nd.injEq, -List.getD_eq_getElem?_getD, -List.map_replicate, -List.map_take, -List.map_drop, -List.map_map, -List.map_append, -List.map_reverse] <;> rfl) ⟨by omega, _, rfl⟩ ?_ ?_
    · rintro k d ρ hd ⟨hk, x, rfl⟩
      refine ⟨_, (by simp [-Fl.rt.injEq, -Fl.nx.injEq, -Fl.er.injEq, -Fl.bk.injEq, -Fl.ct.injEq, -Res.ok.injEq, -List.cons.injEq, -Option.some.injEq, -Prod.mk.injEq, -O.val.injEq, -D.int.injEq, -D.nd.injEq, -List.getD_eq_getElem?_getD, -List.map_replicate, -List.map_take, -List.map_drop, -List.map_map, -List.map_append, -List.map_reverse] <;> rfl), ?_⟩
      by_cases e : k = pre.length
      · subst e
        have hd' : d = b := by simpa using hd.symm
        subst hd'
        refine q_er (by simp [-Fl.rt.injEq, -Fl.nx.injEq, -Fl.er.injEq, -Fl.bk.injEq, -Fl.ct.injEq, -Res.ok.injEq, -List.cons.injEq, -Option.some.injEq, -Prod.mk.injEq, -O.val.injEq, -D.int.injEq, -D.nd.injEq, -List.getD_eq_getElem?_getD, -List.map_replicate, -List.map_take, -List.map_drop, -List.map_map, -List.map_append, -List.map_reverse, w_is_poly hb, hbp] <;> rfl) ?_
        exact ⟨rfl, rfl⟩
      · have hd' : pre[k]? = some d := by rw [← hd, List.getElem?_append_left (by omega)]
        have hm : d ∈ pre := List.mem_of_getElem? hd'
        refine lp_nx (by simp [-Fl.rt.injEq, -Fl.nx.injEq, -Fl.er.injEq, -Fl.bk.injEq, -Fl.ct.injEq, -Res.ok.injEq, -List.cons.injEq, -Option.some.injEq, -Prod.mk.injEq, -O.val.injEq, -D.int.injEq, -D.nd.injEq, -List.getD_eq_getElem?_getD, -List.map_replicate, -List.map_take, -List.map_drop, -List.map_map, -List.map_append, -List.map_reverse, w_is_poly (hz d hm), hp d hm] <;> rfl) ?_
        exact ⟨by omega, _, rfl⟩
    · rintro ρ ⟨hk, x, rfl⟩
      simp at hk
      omega
  obtain ⟨_, _, e, rfl, rfl⟩ := key
  exact e
/-- a polynomial, as the law draws it -/
structure Pol (a : List Int) : Prop where
  s : Small a
  t : a.getLast? ≠ some 0
theorem Pol.pz {a : List Int} (h : Pol a) : Pz (iw a) := pz_iw (Nat.le_trans h.s.l (by decide))
theorem Pol.p {a : List Int} (h : Pol a) : polyB (iw a) = true := poly_iw.mpr h.t
theorem look2 {d e : D} (h1 : Pz d) (h2 : polyB d = true) (h3 : Pz e) (h4 : polyB e = true) : F_look_at_polynomials [.val (.nd .lst [d, e])] = .ok (.val .non, .val .non) :=
  w_look (by simp; exact ⟨h1, h3⟩) (by simp; exact ⟨h2, h4⟩)
theorem look2_1 {d e : D} (h1 : Pz d) (h2 : polyB d = false) : F_look_at_polynomials [.val (.nd .lst [d, e])] = .er 3 [d] [] := w_look_bad (pre := []) (post := [e]) (by simp) (by simp) h1 h2
theorem look2_2 {d e : D} (h1 : Pz d) (h2 : polyB d = true) (h3 : Pz e) (h4 : polyB e = false) : F_look_at_polynomials [.val (.nd .lst [d, e])] = .er 3 [e] [] := w_look_bad (pre := [d]) (post := []) (by simpa using h1) (by simpa using h2) h3 h4
theorem look1 {d : D} (h1 : Pz d) (h2 : polyB d = true) : F_look_at_polynomials [.val (.nd .lst [d])] = .ok (.val .non, .val .non) := w_look (by simpa using h1) (by simpa using h2)
theorem look1_1 {d : D} (h1 : Pz d) (h2 : polyB d = false) : F_look_at_polynomials [.val (.nd .lst [d])] = .er 3 [d] [] := w_look_bad (pre := []) (post := []) (by simp) (by simp) h1 h2
section
variable {a b : List Int} {d e : D}
theorem w_plus (ha : Pol a) (hb : Pol b) : F_plus [.val (iw a), .val (iw b)] = .ok (.val (iw (trim (sm 1 a b))), .val .non) := by
  have h1 := w_sum (a := a) (b := b) (Nat.le_trans ha.s.l (by decide)) (Nat.le_trans hb.s.l (by decide))
  unfold F_plus
  refine fn_V ?_
  unfold m_plus
  refine seq_nx (by simp [-Fl.rt.injEq, -Fl.nx.injEq, -Fl.er.injEq, -Fl.bk.injEq, -Fl.ct.injEq, -Res.ok.injEq, -List.cons.injEq, -Option.some.injEq, -Prod.mk.injEq, -O.val.injEq, -D.int.injEq, -D.nd.injEq, -List.getD_eq_getElem?_getD, -List.map_replicate, -List.map_take, -List.map_drop, -List.map_map, -List.map_append, -List.map_reverse, look2 ha.pz ha.p hb.pz hb.p] <;> rfl) ?_
  refine q_rt (by simp [-Fl.rt.injEq, -Fl.nx.injEq, -Fl.er.injEq, -Fl.bk.injEq, -Fl.ct.injEq, -Res.ok.injEq, -List.cons.injEq, -Option.some.injEq, -Prod.mk.injEq, -O.val.injEq, -D.int.injEq, -D.nd.injEq, -List.getD_eq_getElem?_getD, -List.map_replicate, -List.map_take, -List.map_drop, -List.map_map, -List.map_append, -List.map_reverse, h1] <;> rfl) ?_
  rfl
theorem sm_neg : sm 1 a (neg b) = sm (-1) a b := by
  unfold sm
  have : (neg b).length = b.length := by simp [neg]
  rw [this]
  refine tbl_ext fun n hn => ?_
  simp only [neg]
  by_cases h : n < b.length
  · simp [h]
  · simp [List.getElem?_eq_none (show b.length ≤ n by omega)]
theorem w_less (ha : Pol a) (hb : Pol b) : F_less [.val (iw a), .val (iw b)] = .ok (.val (iw (trim (sm (-1) a b))), .val .non) := by
  have hl : (neg b).length = b.length := by simp [neg]
  have h1 := w_sum (a := a) (b := neg b) (Nat.le_trans ha.s.l (by decide)) (by rw [hl]; exact Nat.le_trans hb.s.l (by decide))
  rw [sm_neg] at h1
  unfold F_less
  refine fn_V ?_
  unfold m_less
  refine seq_nx (by simp [-Fl.rt.injEq, -Fl.nx.injEq, -Fl.er.injEq, -Fl.bk.injEq, -Fl.ct.injEq, -Res.ok.injEq, -List.cons.injEq, -Option.some.injEq, -Prod.mk.injEq, -O.val.injEq, -D.int.injEq, -D.nd.injEq, -List.getD_eq_getElem?_getD, -List.map_replicate, -List.map_take, -List.map_drop, -List.map_map, -List.map_append, -List.map_reverse, look2 ha.pz ha.p hb.pz hb.p] <;> rfl) ?_
  refine q_rt (by simp [-Fl.rt.injEq, -Fl.nx.injEq, -Fl.er.injEq, -Fl.bk.injEq, -Fl.ct.injEq, -Res.ok.injEq, -List.cons.injEq, -Option.some.injEq, -Prod.mk.injEq, -O.val.injEq, -D.int.injEq, -D.nd.injEq, -List.getD_eq_getElem?_getD, -List.map_replicate, -List.map_take, -List.map_drop, -List.map_map, -List.map_append, -List.map_reverse, w_negative (Nat.le_trans hb.s.l (by decide) : b.length ≤ 1000), h1] <;> rfl) ?_
  rfl
theorem w_times (ha : Pol a) (hb : Pol b) : F_times [.val (iw a), .val (iw b)] = .ok (.val (iw (prod a b)), .val .non) := by
  unfold F_times
  refine fn_V ?_
  unfold m_times
  refine seq_nx (by simp [-Fl.rt.injEq, -Fl.nx.injEq, -Fl.er.injEq, -Fl.bk.injEq, -Fl.ct.injEq, -Res.ok.injEq, -List.cons.injEq, -Option.some.injEq, -Prod.mk.injEq, -O.val.injEq, -D.int.injEq, -D.nd.injEq, -List.getD_eq_getElem?_getD, -List.map_replicate, -List.map_take, -List.map_drop, -List.map_map, -List.map_append, -List.map_reverse, look2 ha.pz ha.p hb.pz hb.p] <;> rfl) ?_
  refine q_rt (by simp [-Fl.rt.injEq, -Fl.nx.injEq, -Fl.er.injEq, -Fl.bk.injEq, -Fl.ct.injEq, -Res.ok.injEq, -List.cons.injEq, -Option.some.injEq, -Prod.mk.injEq, -O.val.injEq, -D.int.injEq, -D.nd.injEq, -List.getD_eq_getElem?_getD, -List.map_replicate, -List.map_take, -List.map_drop, -List.map_map, -List.map_append, -List.map_reverse, w_product ha.s hb.s] <;> rfl) ?_
  rfl
theorem fnE {n : Nat} {m : MS} {os : List O} {b : Bool} {c : Nat} {ds : List D} (h : FnE (fun c' ds' => c' = c ∧ ds' = ds) (m (os.map some ++ List.replicate (n - os.length) none))) : defM n b m os = .er c ds [] := by
  obtain ⟨_, _, e, rfl, rfl⟩ := fn_E (b := b) h
  exact e
/-- the refusals -/
theorem bad_1 (h1 : Pz d) (h2 : polyB d = false) : F_plus [.val d, .val e] = .er 3 [d] [] ∧ F_less [.val d, .val e] = .er 3 [d] [] ∧ F_times [.val d, .val e] = .er 3 [d] [] ∧ F_value_at [.val d, .val e] = .er 3 [d] [] := by
  refine ⟨?_, ?_, ?_, ?_⟩
  · unfold F_plus; refine fnE ?_; unfold m_plus; refine seq_er (by simp [-Fl.rt.injEq, -Fl.nx.injEq, -Fl.er.injEq, -Fl.bk.injEq, -Fl.ct.injEq, -Res.ok.injEq, -List.cons.injEq, -Option.some.injEq, -Prod.mk.injEq, -O.val.injEq, -D.int.injEq, -D.nd.injEq, -List.getD_eq_getElem?_getD, -List.map_replicate, -List.map_take, -List.map_drop, -List.map_map, -List.map_append, -List.map_reverse, look2_1 h1 h2] <;> rfl) ?_; exact ⟨rfl, rfl⟩
  · unfold F_less; refine fnE ?_; unfold m_less; refine seq_er (by simp [-Fl.rt.injEq, -Fl.nx.injEq, -Fl.er.injEq, -Fl.bk.injEq, -Fl.ct.injEq, -Res.ok.injEq, -List.cons.injEq, -Option.some.injEq, -Prod.mk.injEq, -O.val.injEq, -D.int.injEq, -D.nd.injEq, -List.getD_eq_getElem?_getD, -List.map_replicate, -List.map_take, -List.map_drop, -List.map_map, -List.map_append, -List.map_reverse, look2_1 h1 h2] <;> rfl) ?_; exact ⟨rfl, rfl⟩
  · unfold F_times; refine fnE ?_; unfold m_times; refine seq_er (by simp [-Fl.rt.injEq, -Fl.nx.injEq, -Fl.er.injEq, -Fl.bk.injEq, -Fl.ct.injEq, -Res.ok.injEq, -List.cons.injEq, -Option.some.injEq, -Prod.mk.injEq, -O.val.injEq, -D.int.injEq, -D.nd.injEq, -List.getD_eq_getElem?_getD, -List.map_replicate, -List.map_take, -List.map_drop, -List.map_map, -List.map_append, -List.map_reverse, look2_1 h1 h2] <;> rfl) ?_; exact ⟨rfl, rfl⟩
  · unfold F_value_at; refine fnE ?_; unfold m_value_at; refine seq_er (by simp [-Fl.rt.injEq, -Fl.nx.injEq, -Fl.er.injEq, -Fl.bk.injEq, -Fl.ct.injEq, -Res.ok.injEq, -List.cons.injEq, -Option.some.injEq, -Prod.mk.injEq, -O.val.injEq, -D.int.injEq, -D.nd.injEq, -List.getD_eq_getElem?_getD, -List.map_replicate, -List.map_take, -List.map_drop, -List.map_map, -List.map_append, -List.map_reverse, look1_1 h1 h2] <;> rfl) ?_; exact ⟨rfl, rfl⟩
theorem bad_2 (h1 : Pz d) (h2 : polyB d = true) (h3 : Pz e) (h4 : polyB e = false) : F_plus [.val d, .val e] = .er 3 [e] [] ∧ F_less [.val d, .val e] = .er 3 [e] [] ∧ F_times [.val d, .val e] = .er 3 [e] [] := by
  refine ⟨?_, ?_, ?_⟩
  · unfold F_plus; refine fnE ?_; unfold m_plus; refine seq_er (by simp [-Fl.rt.injEq, -Fl.nx.injEq, -Fl.er.injEq, -Fl.bk.injEq, -Fl.ct.injEq, -Res.ok.injEq, -List.cons.injEq, -Option.some.injEq, -Prod.mk.injEq, -O.val.injEq, -D.int.injEq, -D.nd.injEq, -List.getD_eq_getElem?_getD, -List.map_replicate, -List.map_take, -List.map_drop, -List.map_map, -List.map_append, -List.map_reverse, look2_2 h1 h2 h3 h4] <;> rfl) ?_; exact ⟨rfl, rfl⟩
  · unfold F_less; refine fnE ?_; unfold m_less; refine seq_er (by simp [-Fl.rt.injEq, -Fl.nx.injEq, -Fl.er.injEq, -Fl.bk.injEq, -Fl.ct.injEq, -Res.ok.injEq, -List.cons.injEq, -Option.some.injEq, -Prod.mk.injEq, -O.val.injEq, -D.int.injEq, -D.nd.injEq, -List.getD_eq_getElem?_getD, -List.map_replicate, -List.map_take, -List.map_drop, -List.map_map, -List.map_append, -List.map_reverse, look2_2 h1 h2 h3 h4] <;> rfl) ?_; exact ⟨rfl, rfl⟩
  · unfold F_times; refine fnE ?_; unfold m_times; refine seq_er (by simp [-Fl.rt.injEq, -Fl.nx.injEq, -Fl.er.injEq, -Fl.bk.injEq, -Fl.ct.injEq, -Res.ok.injEq, -List.cons.injEq, -Option.some.injEq, -Prod.mk.injEq, -O.val.injEq, -D.int.injEq, -D.nd.injEq, -List.getD_eq_getElem?_getD, -List.map_replicate, -List.map_take, -List.map_drop, -List.map_map, -List.map_append, -List.map_reverse, look2_2 h1 h2 h3 h4] <;> rfl) ?_; exact ⟨rfl, rfl⟩
theorem bad_n (ha : Pol a) (he : plainH e = true) (hi : isInt e = false) : F_value_at [.val (iw a), .val e] = .er 1 [e] [] := by
  unfold F_value_at
  refine fnE ?_
  unfold m_value_at
  refine seq_nx (by simp [-Fl.rt.injEq, -Fl.nx.injEq, -Fl.er.injEq, -Fl.bk.injEq, -Fl.ct.injEq, -Res.ok.injEq, -List.cons.injEq, -Option.some.injEq, -Prod.mk.injEq, -O.val.injEq, -D.int.injEq, -D.nd.injEq, -List.getD_eq_getElem?_getD, -List.map_replicate, -List.map_take, -List.map_drop, -List.map_map, -List.map_append, -List.map_reverse, look1 ha.pz ha.p] <;> rfl) ?_
  refine seq_er (by simp [-Fl.rt.injEq, -Fl.nx.injEq, -Fl.er.injEq, -Fl.bk.injEq, -Fl.ct.injEq, -Res.ok.injEq, -List.cons.injEq, -Option.some.injEq, -Prod.mk.injEq, -O.val.injEq, -D.int.injEq, -D.nd.injEq, -List.getD_eq_getElem?_getD, -List.map_replicate, -List.map_take, -List.map_drop, -List.map_map, -List.map_append, -List.map_reverse, w_is_integer he, hi] <;> rfl) ?_
  exact ⟨rfl, rfl⟩
/-! ### values -/
def hv (n : Int) : List Int → Int := List.foldl (fun v c => v * n + c) 0
theorem hv_take {n : Int} {a : List Int} {k : Nat} {x : Int} (h : a[k]? = some x) : hv n (a.take (k + 1)) = hv n (a.take k) * n + x := by
  rw [List.take_add_one, h]
  simp [hv]
theorem hv_bd {n : Int} (hn : n.natAbs < 2 ^ 120) {a : List Int} (ha : Small a) : ∀ k : Nat, k ≤ a.length → (hv n (a.take k)).natAbs < 2 ^ (121 * k + 1)
  | 0, _ => by simp [hv]
  | k + 1, hk => by
    have ih := hv_bd hn ha k (by omega)
    have hx : a[k]? = some a[k] := by simp [show k < a.length by omega]
    have hb := ha.get hx
    rw [hv_take hx]
    generalize hv n (a.take k) = v at ih
    generalize a[k] = x at hb
    have h1 : (v * n + x).natAbs ≤ v.natAbs * n.natAbs + x.natAbs := by
      have := Int.natAbs_add_le (v * n) x
      rwa [Int.natAbs_mul] at this
    have h2 : v.natAbs * n.natAbs ≤ 2 ^ (121 * k + 1) * 2 ^ 120 := Nat.mul_le_mul (by omega) (by omega)
    rw [← Nat.pow_add] at h2
    have h3 : (2 : Nat) ^ 120 ≤ 2 ^ (121 * k + 1 + 120) := Nat.pow_le_pow_right (by decide) (by omega)
    have h4 : (2 : Nat) ^ (121 * (k + 1) + 1) = 2 * 2 ^ (121 * k + 1 + 120) := by
      rw [← Nat.pow_succ']; congr 1
    omega
theorem hv_mul {n : Int} (hn : n.natAbs < 2 ^ 120) {a : List Int} (ha : Small a) {k : Nat} (hk : k ≤ a.length) : mulOk (hv n (a.take k)) n = true :=
  mulL (hv_bd hn ha k hk) hn (by have := ha.l; omega)
theorem small_rev (h : Small a) : Small a.reverse := ⟨by simpa using h.l, fun x hx => h.b x (by simpa using hx)⟩
theorem w_value_at (ha : Pol a) {n : Int} (hn : n.natAbs < 2 ^ 120) : F_value_at [.val (iw a), .val (.int n)] = .ok (.val (.int (hv n a.reverse)), .val .non) := by
  have hs := small_rev ha.s
  unfold F_value_at
  refine fn_V ?_
  unfold m_value_at
  refine seq_nx (by simp [-Fl.rt.injEq, -Fl.nx.injEq, -Fl.er.injEq, -Fl.bk.injEq, -Fl.ct.injEq, -Res.ok.injEq, -List.cons.injEq, -Option.some.injEq, -Prod.mk.injEq, -O.val.injEq, -D.int.injEq, -D.nd.injEq, -List.getD_eq_getElem?_getD, -List.map_replicate, -List.map_take, -List.map_drop, -List.map_map, -List.map_append, -List.map_reverse, look1 ha.pz ha.p] <;> rfl) ?_
  refine seq_nx (by simp [-Fl.rt.injEq, -Fl.nx.injEq, -Fl.er.injEq, -Fl.bk.injEq, -Fl.ct.injEq, -Res.ok.injEq, -List.cons.injEq, -Option.some.injEq, -Prod.mk.injEq, -O.val.injEq, -D.int.injEq, -D.nd.injEq, -List.getD_eq_getElem?_getD, -List.map_replicate, -List.map_take, -List.map_drop, -List.map_map, -List.map_append, -List.map_reverse, w_is_integer (d := .int n) rfl, isInt] <;> rfl) ?_
  refine seq_nx (by simp [-Fl.rt.injEq, -Fl.nx.injEq, -Fl.er.injEq, -Fl.bk.injEq, -Fl.ct.injEq, -Res.ok.injEq, -List.cons.injEq, -Option.some.injEq, -Prod.mk.injEq, -O.val.injEq, -D.int.injEq, -D.nd.injEq, -List.getD_eq_getElem?_getD, -List.map_replicate, -List.map_take, -List.map_drop, -List.map_map, -List.map_append, -List.map_reverse] <;> rfl) ?_
  refine seq_for (ds := a.reverse.map .int) (ρ1 := [some (.val (iw a)), some (.val (.int n)), some (.val (.int 0)), none]) (fun k ρ => ∃ x, ρ = [some (.val (iw a)), some (.val (.int n)), some (.val (.int (hv n (a.reverse.take k)))), x]) (by simp [-Fl.rt.injEq, -Fl.nx.injEq, -Fl.er.injEq, -Fl.bk.injEq, -Fl.ct.injEq, -Res.ok.injEq, -List.cons.injEq, -Option.some.injEq, -Prod.mk.injEq, -O.val.injEq, -D.int.injEq, -D.nd.injEq, -List.getD_eq_getElem?_getD, -List.map_replicate, -List.map_take, -List.map_drop, -List.map_map, -List.map_append, -List.map_reverse] <;> rfl) ⟨_, rfl⟩ ?_ ?_
  · rintro k d ρ hd ⟨x, rfl⟩
    obtain ⟨y, hy, rfl⟩ := ints_get hd
    refine ⟨_, (by simp [-Fl.rt.injEq, -Fl.nx.injEq, -Fl.er.injEq, -Fl.bk.injEq, -Fl.ct.injEq, -Res.ok.injEq, -List.cons.injEq, -Option.some.injEq, -Prod.mk.injEq, -O.val.injEq, -D.int.injEq, -D.nd.injEq, -List.getD_eq_getElem?_getD, -List.map_replicate, -List.map_take, -List.map_drop, -List.map_map, -List.map_append, -List.map_reverse] <;> rfl), ?_⟩
    have hk : k < a.reverse.length := (List.getElem?_eq_some_iff.mp hy).1
    refine lp_nx (by simp [-Fl.rt.injEq, -Fl.nx.injEq, -Fl.er.injEq, -Fl.bk.injEq, -Fl.ct.injEq, -Res.ok.injEq, -List.cons.injEq, -Option.some.injEq, -Prod.mk.injEq, -O.val.injEq, -D.int.injEq, -D.nd.injEq, -List.getD_eq_getElem?_getD, -List.map_replicate, -List.map_take, -List.map_drop, -List.map_map, -List.map_append, -List.map_reverse, v_mul (hv_mul hn hs (Nat.le_of_lt hk)), ← hv_take hy] <;> rfl) ?_
    exact ⟨_, rfl⟩
  · rintro ρ ⟨x, rfl⟩
    rw [List.length_map, List.take_length]
    refine q_rt (by simp [-Fl.rt.injEq, -Fl.nx.injEq, -Fl.er.injEq, -Fl.bk.injEq, -Fl.ct.injEq, -Res.ok.injEq, -List.cons.injEq, -Option.some.injEq, -Prod.mk.injEq, -O.val.injEq, -D.int.injEq, -D.nd.injEq, -List.getD_eq_getElem?_getD, -List.map_replicate, -List.map_take, -List.map_drop, -List.map_map, -List.map_append, -List.map_reverse] <;> rfl) ?_
    rfl
theorem w_lvalue (ha : Small a) {n : Int} (hn : n.natAbs < 2 ^ 120) : F__law_value [.val (iw a), .val (.int n)] = .ok (.val (.int (hv n a.reverse)), .val .non) := by
  have hs := small_rev ha
  unfold F__law_value
  refine fn_V ?_
  unfold m__law_value
  refine seq_nx (by simp [-Fl.rt.injEq, -Fl.nx.injEq, -Fl.er.injEq, -Fl.bk.injEq, -Fl.ct.injEq, -Res.ok.injEq, -List.cons.injEq, -Option.some.injEq, -Prod.mk.injEq, -O.val.injEq, -D.int.injEq, -D.nd.injEq, -List.getD_eq_getElem?_getD, -List.map_replicate, -List.map_take, -List.map_drop, -List.map_map, -List.map_append, -List.map_reverse] <;> rfl) ?_
  refine seq_for (ds := a.reverse.map .int) (ρ1 := [some (.val (iw a)), some (.val (.int n)), some (.val (.int 0)), none]) (fun k ρ => ∃ x, ρ = [some (.val (iw a)), some (.val (.int n)), some (.val (.int (hv n (a.reverse.take k)))), x]) (by simp [-Fl.rt.injEq, -Fl.nx.injEq, -Fl.er.injEq, -Fl.bk.injEq, -Fl.ct.injEq, -Res.ok.injEq, -List.cons.injEq, -Option.some.injEq, -Prod.mk.injEq, -O.val.injEq, -D.int.injEq, -D.nd.injEq, -List.getD_eq_getElem?_getD, -List.map_replicate, -List.map_take, -List.map_drop, -List.map_map, -List.map_append, -List.map_reverse] <;> rfl) ⟨_, rfl⟩ ?_ ?_
  · rintro k d ρ hd ⟨x, rfl⟩
    obtain ⟨y, hy, rfl⟩ := ints_get hd
    refine ⟨_, (by simp [-Fl.rt.injEq, -Fl.nx.injEq, -Fl.er.injEq, -Fl.bk.injEq, -Fl.ct.injEq, -Res.ok.injEq, -List.cons.injEq, -Option.some.injEq, -Prod.mk.injEq, -O.val.injEq, -D.int.injEq, -D.nd.injEq, -List.getD_eq_getElem?_getD, -List.map_replicate, -List.map_take, -List.map_drop, -List.map_map, -List.map_append, -List.map_reverse] <;> rfl), ?_⟩
    have hk : k < a.reverse.length := (List.getElem?_eq_some_iff.mp hy).1
    refine lp_nx (by simp [-Fl.rt.injEq, -Fl.nx.injEq, -Fl.er.injEq, -Fl.bk.injEq, -Fl.ct.injEq, -Res.ok.injEq, -List.cons.injEq, -Option.some.injEq, -Prod.mk.injEq, -O.val.injEq, -D.int.injEq, -D.nd.injEq, -List.getD_eq_getElem?_getD, -List.map_replicate, -List.map_take, -List.map_drop, -List.map_map, -List.map_append, -List.map_reverse, v_mul (hv_mul hn hs (Nat.le_of_lt hk)), ← hv_take hy] <;> rfl) ?_
    exact ⟨_, rfl⟩
  · rintro ρ ⟨x, rfl⟩
    rw [List.length_map, List.take_length]
    refine q_rt (by simp [-Fl.rt.injEq, -Fl.nx.injEq, -Fl.er.injEq, -Fl.bk.injEq, -Fl.ct.injEq, -Res.ok.injEq, -List.cons.injEq, -Option.some.injEq, -Prod.mk.injEq, -O.val.injEq, -D.int.injEq, -D.nd.injEq, -List.getD_eq_getElem?_getD, -List.map_replicate, -List.map_take, -List.map_drop, -List.map_map, -List.map_append, -List.map_reverse] <;> rfl) ?_
    rfl
end
end L52
set_option Elab.async false
set_option maxRecDepth 100000
set_option linter.all false
namespace L52
open PySem L2 Y
/-! ### the law's own reckoning -/
theorem w_ltrim {l : List Int} {d : D} (hd : listD [d] = some (l.map .int)) (hl : l.length ≤ 1000000) : F__law_trim [.val d] = .ok (.val (iw (trim l)), .val .non) := by
  unfold F__law_trim
  refine fn_V ?_
  unfold m__law_trim
  refine seq_nx (by simp [-Fl.rt.injEq, -Fl.nx.injEq, -Fl.er.injEq, -Fl.bk.injEq, -Fl.ct.injEq, -Res.ok.injEq, -List.cons.injEq, -Option.some.injEq, -Prod.mk.injEq, -O.val.injEq, -D.int.injEq, -D.nd.injEq, -List.getD_eq_getElem?_getD, -List.map_replicate, -List.map_take, -List.map_drop, -List.map_map, -List.map_append, -List.map_reverse, hd] <;> rfl) ?_
  have hg : irng1 (mex (xplen (pvar 0))) [some (nl (l.map D.int)), none] = .ok ((List.range l.length).map nD, [some (nl (l.map D.int)), none]) := v_rangeN (by simp [-Fl.rt.injEq, -Fl.nx.injEq, -Fl.er.injEq, -Fl.bk.injEq, -Fl.ct.injEq, -Res.ok.injEq, -List.cons.injEq, -Option.some.injEq, -Prod.mk.injEq, -O.val.injEq, -D.int.injEq, -D.nd.injEq, -List.getD_eq_getElem?_getD, -List.map_replicate, -List.map_take, -List.map_drop, -List.map_map, -List.map_append, -List.map_reverse] <;> rfl) (by omega)
  refine seq_for (fun k ρ => k ≤ l.length ∧ trim (l.take (l.length - k)) = trim l ∧ ∃ x, ρ = [some (nl ((l.take (l.length - k)).map D.int)), x]) hg ⟨by omega, by simp, _, by simp; rfl⟩ ?_ ?_
  · rintro k d ρ hd ⟨hk, ht, x, rfl⟩
    obtain ⟨hk1, rfl⟩ := range_get hd
    obtain ⟨p, hp⟩ : ∃ p, l.length - k = p + 1 := ⟨l.length - k - 1, by omega⟩
    have hp2 : l.length - (k + 1) = p := by omega
    rw [hp, last_split (by omega)] at ht ⊢
    rw [hp2]
    generalize l.take p = u at ht ⊢
    generalize l[p] = y at ht ⊢
    refine ⟨_, (by simp [-Fl.rt.injEq, -Fl.nx.injEq, -Fl.er.injEq, -Fl.bk.injEq, -Fl.ct.injEq, -Res.ok.injEq, -List.cons.injEq, -Option.some.injEq, -Prod.mk.injEq, -O.val.injEq, -D.int.injEq, -D.nd.injEq, -List.getD_eq_getElem?_getD, -List.map_replicate, -List.map_take, -List.map_drop, -List.map_map, -List.map_append, -List.map_reverse] <;> rfl), ?_⟩
    have hlast : L2.atI ((u ++ [y]).map D.int) (-1) = some (.int y) := by rw [atI_neg, last_ints]; simp
    have hpop := pop_ints (i := 0) (l := u) (x := y) (ρ := [some (nl ((u ++ [y]).map D.int)), some (.val (.int (k : Int)))]) rfl
    by_cases h0 : y = 0
    · subst h0
      refine seq_nx (by simp [-Fl.rt.injEq, -Fl.nx.injEq, -Fl.er.injEq, -Fl.bk.injEq, -Fl.ct.injEq, -Res.ok.injEq, -List.cons.injEq, -Option.some.injEq, -Prod.mk.injEq, -O.val.injEq, -D.int.injEq, -D.nd.injEq, -List.getD_eq_getElem?_getD, -List.map_replicate, -List.map_take, -List.map_drop, -List.map_map, -List.map_append, -List.map_reverse, hlast] <;> rfl) ?_
      refine lp_nx (by simp [-Fl.rt.injEq, -Fl.nx.injEq, -Fl.er.injEq, -Fl.bk.injEq, -Fl.ct.injEq, -Res.ok.injEq, -List.cons.injEq, -Option.some.injEq, -Prod.mk.injEq, -O.val.injEq, -D.int.injEq, -D.nd.injEq, -List.getD_eq_getElem?_getD, -List.map_replicate, -List.map_take, -List.map_drop, -List.map_map, -List.map_append, -List.map_reverse, hpop] <;> rfl) ?_
      rw [trim_0] at ht
      exact ⟨by omega, ht, _, rfl⟩
    · refine seq_bk (by simp [-Fl.rt.injEq, -Fl.nx.injEq, -Fl.er.injEq, -Fl.bk.injEq, -Fl.ct.injEq, -Res.ok.injEq, -List.cons.injEq, -Option.some.injEq, -Prod.mk.injEq, -O.val.injEq, -D.int.injEq, -D.nd.injEq, -List.getD_eq_getElem?_getD, -List.map_replicate, -List.map_take, -List.map_drop, -List.map_map, -List.map_append, -List.map_reverse, hlast, h0] <;> rfl) ?_
      dsimp only [Lp, Kq]
      refine q_rt (by simp [-Fl.rt.injEq, -Fl.nx.injEq, -Fl.er.injEq, -Fl.bk.injEq, -Fl.ct.injEq, -Res.ok.injEq, -List.cons.injEq, -Option.some.injEq, -Prod.mk.injEq, -O.val.injEq, -D.int.injEq, -D.nd.injEq, -List.getD_eq_getElem?_getD, -List.map_replicate, -List.map_take, -List.map_drop, -List.map_map, -List.map_append, -List.map_reverse] <;> rfl) ?_
      show _ = _
      rw [trim_x h0] at ht
      rw [← ht]
  · rintro ρ ⟨hk, ht, x, rfl⟩
    rw [show ((List.range l.length).map nD).length = l.length by simp, Nat.sub_self] at ht ⊢
    refine q_rt (by simp [-Fl.rt.injEq, -Fl.nx.injEq, -Fl.er.injEq, -Fl.bk.injEq, -Fl.ct.injEq, -Res.ok.injEq, -List.cons.injEq, -Option.some.injEq, -Prod.mk.injEq, -O.val.injEq, -D.int.injEq, -D.nd.injEq, -List.getD_eq_getElem?_getD, -List.map_replicate, -List.map_take, -List.map_drop, -List.map_map, -List.map_append, -List.map_reverse] <;> rfl) ?_
    show _ = _
    rw [← ht]; rfl
theorem getD_pad {a : List Int} {n k : Nat} : (a ++ List.replicate k 0).getD n 0 = a.getD n 0 := by
  simp only [List.getD_eq_getElem?_getD]
  by_cases h : n < a.length
  · rw [List.getElem?_append_left h]
  · rw [List.getElem?_append_right (by omega), List.getElem?_eq_none (show a.length ≤ n by omega), List.getElem?_replicate]
    split <;> rfl
theorem rep_ints {n : Nat} : List.replicate n (D.int 0) = (List.replicate n (0 : Int)).map D.int := by simp
theorem w_lplus {a b : List Int} {s : Int} (ha : a.length ≤ 1000) (hb : b.length ≤ 1000) (hs : s.natAbs ≤ 1) : F__law_plus [.val (iw a), .val (iw b), .val (.int s)] = .ok (.val (iw (trim (sm s a b))), .val .non) := by
  unfold F__law_plus
  refine fn_V ?_
  unfold m__law_plus
  refine seq_nx (by simp [-Fl.rt.injEq, -Fl.nx.injEq, -Fl.er.injEq, -Fl.bk.injEq, -Fl.ct.injEq, -Res.ok.injEq, -List.cons.injEq, -Option.some.injEq, -Prod.mk.injEq, -O.val.injEq, -D.int.injEq, -D.nd.injEq, -List.getD_eq_getElem?_getD, -List.map_replicate, -List.map_take, -List.map_drop, -List.map_map, -List.map_append, -List.map_reverse] <;> rfl) ?_
  generalize hN : max a.length b.length = N
  have e1 : ((N : Int) - (a.length : Int)) = ((N - a.length : Nat) : Int) := by omega
  have e2 : ((N : Int) - (b.length : Int)) = ((N - b.length : Nat) : Int) := by omega
  have r1 := v_rep (n := N - a.length) (d := .int 0) (by omega)
  have r2 := v_rep (n := N - b.length) (d := .int 0) (by omega)
  have c1 := cat_il (a := a) (b := List.replicate (N - a.length) 0) (by simp; omega)
  have c2 := cat_il (a := b) (b := List.replicate (N - b.length) 0) (by simp; omega)
  rw [rep_ints] at r1 r2
  refine seq_nx (by simp [-Fl.rt.injEq, -Fl.nx.injEq, -Fl.er.injEq, -Fl.bk.injEq, -Fl.ct.injEq, -Res.ok.injEq, -List.cons.injEq, -Option.some.injEq, -Prod.mk.injEq, -O.val.injEq, -D.int.injEq, -D.nd.injEq, -List.getD_eq_getElem?_getD, -List.map_replicate, -List.map_take, -List.map_drop, -List.map_map, -List.map_append, -List.map_reverse, e1, r1, c1] <;> rfl) ?_
  refine seq_nx (by simp [-Fl.rt.injEq, -Fl.nx.injEq, -Fl.er.injEq, -Fl.bk.injEq, -Fl.ct.injEq, -Res.ok.injEq, -List.cons.injEq, -Option.some.injEq, -Prod.mk.injEq, -O.val.injEq, -D.int.injEq, -D.nd.injEq, -List.getD_eq_getElem?_getD, -List.map_replicate, -List.map_take, -List.map_drop, -List.map_map, -List.map_append, -List.map_reverse, e2, r2, c2] <;> rfl) ?_
  have hA : ∀ k, k < N → ixD (il (a ++ List.replicate (N - a.length) 0)) (.int (k : Int)) = some (.int (a.getD k 0)) := fun k hk => by
    rw [← getD_pad (k := N - a.length)]
    exact ix_il (getD_some (by simp; omega))
  have hB : ∀ k, k < N → ixD (il (b ++ List.replicate (N - b.length) 0)) (.int (k : Int)) = some (.int (b.getD k 0)) := fun k hk => by
    rw [← getD_pad (k := N - b.length)]
    exact ix_il (getD_some (by simp; omega))
  generalize hc : mcomp _ _ _ _ _ = C
  have h : C [some (.val (iw a)), some (.val (iw b)), some (.val (.int s)), some (.val (.int (N : Int))), some (.val (il (a ++ List.replicate (N - a.length) 0))), some (.val (il (b ++ List.replicate (N - b.length) 0))), none] = .ok _ := hc ▸ mcomp_rng (g := fun k => .int (a.getD k 0 + s * b.getD k 0)) (v_rangeN (by simp [-Fl.rt.injEq, -Fl.nx.injEq, -Fl.er.injEq, -Fl.bk.injEq, -Fl.ct.injEq, -Res.ok.injEq, -List.cons.injEq, -Option.some.injEq, -Prod.mk.injEq, -O.val.injEq, -D.int.injEq, -D.nd.injEq, -List.getD_eq_getElem?_getD, -List.map_replicate, -List.map_take, -List.map_drop, -List.map_map, -List.map_append, -List.map_reverse] <;> rfl) (by omega)) rfl (by omega) (by
    intro k hk
    have hm := mulS' (i := s) (j := b.getD k 0) (by omega)
    exact (by simp [-Fl.rt.injEq, -Fl.nx.injEq, -Fl.er.injEq, -Fl.bk.injEq, -Fl.ct.injEq, -Res.ok.injEq, -List.cons.injEq, -Option.some.injEq, -Prod.mk.injEq, -O.val.injEq, -D.int.injEq, -D.nd.injEq, -List.getD_eq_getElem?_getD, -List.map_replicate, -List.map_take, -List.map_drop, -List.map_map, -List.map_append, -List.map_reverse, hA k hk, hB k hk, v_mul hm] <;> rfl))
  have e : (List.range N).map (fun k => D.int (a.getD k 0 + s * b.getD k 0)) = (sm s a b).map .int := by
    unfold sm; rw [hN, tbl_map]; rfl
  rw [e] at h
  have ht := w_ltrim (l := sm s a b) (d := il (sm s a b)) rfl (by simp [sm]; omega)
  refine q_rt (by simp [-Fl.rt.injEq, -Fl.nx.injEq, -Fl.er.injEq, -Fl.bk.injEq, -Fl.ct.injEq, -Res.ok.injEq, -List.cons.injEq, -Option.some.injEq, -Prod.mk.injEq, -O.val.injEq, -D.int.injEq, -D.nd.injEq, -List.getD_eq_getElem?_getD, -List.map_replicate, -List.map_take, -List.map_drop, -List.map_map, -List.map_append, -List.map_reverse, h, ht] <;> rfl) ?_
  rfl
theorem w_ltimes {a b : List Int} (ha : Small a) (hb : Small b) : F__law_times [.val (iw a), .val (iw b)] = .ok (.val (iw (prod a b)), .val .non) := by
  have hal := ha.l
  have hbl := hb.l
  have q1 := eq_nb (Nb.iw a) (Nb.iw [])
  have q2 := eq_nb (Nb.iw b) (Nb.iw [])
  unfold F__law_times
  refine fn_V ?_
  unfold m__law_times
  by_cases h0 : a = [] ∨ b = []
  · have hp : prod a b = [] := by simp [prod, h0]
    rw [hp]
    by_cases ha0 : a = []
    · subst ha0
      refine seq_rt (by simp [-Fl.rt.injEq, -Fl.nx.injEq, -Fl.er.injEq, -Fl.bk.injEq, -Fl.ct.injEq, -Res.ok.injEq, -List.cons.injEq, -Option.some.injEq, -Prod.mk.injEq, -O.val.injEq, -D.int.injEq, -D.nd.injEq, -List.getD_eq_getElem?_getD, -List.map_replicate, -List.map_take, -List.map_drop, -List.map_map, -List.map_append, -List.map_reverse, q1] <;> rfl) ?_
      rfl
    · have hb0 : b = [] := by rcases h0 with h0 | h0 <;> first | exact absurd h0 ha0 | exact h0
      subst hb0
      have : dEq (iw a) (iw []) = false := dEq_ne fun z => ha0 (iw_inj.mp z)
      refine seq_rt (by simp [-Fl.rt.injEq, -Fl.nx.injEq, -Fl.er.injEq, -Fl.bk.injEq, -Fl.ct.injEq, -Res.ok.injEq, -List.cons.injEq, -Option.some.injEq, -Prod.mk.injEq, -O.val.injEq, -D.int.injEq, -D.nd.injEq, -List.getD_eq_getElem?_getD, -List.map_replicate, -List.map_take, -List.map_drop, -List.map_map, -List.map_append, -List.map_reverse, q1, this, q2] <;> rfl) ?_
      rfl
  · have hp : prod a b = prodL a b := by simp [prod, h0]
    rw [hp]
    rw [not_or] at h0
    have a1 := List.length_pos_iff.mpr h0.1
    have b1 := List.length_pos_iff.mpr h0.2
    have n1 : dEq (iw a) (iw []) = false := dEq_ne fun z => h0.1 (iw_inj.mp z)
    have n2 : dEq (iw b) (iw []) = false := dEq_ne fun z => h0.2 (iw_inj.mp z)
    refine seq_nx (by simp [-Fl.rt.injEq, -Fl.nx.injEq, -Fl.er.injEq, -Fl.bk.injEq, -Fl.ct.injEq, -Res.ok.injEq, -List.cons.injEq, -Option.some.injEq, -Prod.mk.injEq, -O.val.injEq, -D.int.injEq, -D.nd.injEq, -List.getD_eq_getElem?_getD, -List.map_replicate, -List.map_take, -List.map_drop, -List.map_map, -List.map_append, -List.map_reverse, q1, q2, n1, n2] <;> rfl) ?_
    have e1 : ((a.length : Int) + (b.length : Int) - 1) = ((a.length + b.length - 1 : Nat) : Int) := by omega
    have hN : a.length + b.length - 1 ≤ 16777216 := by omega
    have hr : (List.replicate (a.length + b.length - 1) (D.int 0)) = (outer a b 0).map .int := by simp [outer]
    refine seq_nx (by simp [-Fl.rt.injEq, -Fl.nx.injEq, -Fl.er.injEq, -Fl.bk.injEq, -Fl.ct.injEq, -Res.ok.injEq, -List.cons.injEq, -Option.some.injEq, -Prod.mk.injEq, -O.val.injEq, -D.int.injEq, -D.nd.injEq, -List.getD_eq_getElem?_getD, -List.map_replicate, -List.map_take, -List.map_drop, -List.map_map, -List.map_append, -List.map_reverse, e1, v_rep hN, hr] <;> rfl) ?_
    have hg : irng1 (mL lenD (mcons (rd 0) (mret []))) [some (.val (iw a)), some (.val (iw b)), some (nl ((outer a b 0).map .int)), none, none] = .ok ((List.range a.length).map nD, _) := v_rangeN (by simp [-Fl.rt.injEq, -Fl.nx.injEq, -Fl.er.injEq, -Fl.bk.injEq, -Fl.ct.injEq, -Res.ok.injEq, -List.cons.injEq, -Option.some.injEq, -Prod.mk.injEq, -O.val.injEq, -D.int.injEq, -D.nd.injEq, -List.getD_eq_getElem?_getD, -List.map_replicate, -List.map_take, -List.map_drop, -List.map_map, -List.map_append, -List.map_reverse] <;> rfl) (by omega)
    refine seq_for (fun k ρ => ∃ x3 x4, ρ = [some (.val (iw a)), some (.val (iw b)), some (nl ((outer a b k).map .int)), x3, x4]) hg ⟨_, _, rfl⟩ ?_ ?_
    · rintro i d ρ hd ⟨x3, x4, rfl⟩
      obtain ⟨hi, rfl⟩ := range_get hd
      refine ⟨_, (by simp [-Fl.rt.injEq, -Fl.nx.injEq, -Fl.er.injEq, -Fl.bk.injEq, -Fl.ct.injEq, -Res.ok.injEq, -List.cons.injEq, -Option.some.injEq, -Prod.mk.injEq, -O.val.injEq, -D.int.injEq, -D.nd.injEq, -List.getD_eq_getElem?_getD, -List.map_replicate, -List.map_take, -List.map_drop, -List.map_map, -List.map_append, -List.map_reverse] <;> rfl), ?_⟩
      have hg : irng1 (mL lenD (mcons (rd 1) (mret []))) [some (.val (iw a)), some (.val (iw b)), some (nl ((outer a b i).map .int)), some (.val (.int (i : Int))), x4] = .ok ((List.range b.length).map nD, _) := v_rangeN (by simp [-Fl.rt.injEq, -Fl.nx.injEq, -Fl.er.injEq, -Fl.bk.injEq, -Fl.ct.injEq, -Res.ok.injEq, -List.cons.injEq, -Option.some.injEq, -Prod.mk.injEq, -O.val.injEq, -D.int.injEq, -D.nd.injEq, -List.getD_eq_getElem?_getD, -List.map_replicate, -List.map_take, -List.map_drop, -List.map_map, -List.map_append, -List.map_reverse] <;> rfl) (by omega)
      refine sfor_ix (fun k ρ => ∃ x4, ρ = [some (.val (iw a)), some (.val (iw b)), some (nl ((inner a b i (outer a b i) k).map .int)), some (.val (.int (i : Int))), x4]) hg ⟨x4, rfl⟩ ?_ ?_
      · rintro j d ρ hd ⟨x4, rfl⟩
        obtain ⟨hj, rfl⟩ := range_get hd
        have hx := getD_some hi
        have hy := getD_some hj
        have hl : (inner a b i (outer a b i) j).length = a.length + b.length - 1 := by rw [inner_len, outer_len]
        have hg := atI_ints (getD_some (F := inner a b i (outer a b i) j) (k := i + j) (by rw [hl]; omega))
        have hk : L2.ixN (a.length + b.length - 1) ((i : Int) + (j : Int)) = some (i + j) := ixN_nat (k := i + j) (by omega)
        have hm : mulOk (a.getD i 0) (b.getD j 0) = true := mulL (ha.get hx) (hb.get hy) (by decide)
        refine ⟨_, (by simp [-Fl.rt.injEq, -Fl.nx.injEq, -Fl.er.injEq, -Fl.bk.injEq, -Fl.ct.injEq, -Res.ok.injEq, -List.cons.injEq, -Option.some.injEq, -Prod.mk.injEq, -O.val.injEq, -D.int.injEq, -D.nd.injEq, -List.getD_eq_getElem?_getD, -List.map_replicate, -List.map_take, -List.map_drop, -List.map_map, -List.map_append, -List.map_reverse] <;> rfl), ?_⟩
        have hg' : L2.atI ((inner a b i (outer a b i) j).map D.int) ((i : Int) + (j : Int)) = some (.int ((inner a b i (outer a b i) j).getD (i + j) 0)) := hg
        have hs : ((inner a b i (outer a b i) j).map D.int).set (i + j) (D.int ((inner a b i (outer a b i) j).getD (i + j) 0 + a.getD i 0 * b.getD j 0)) = (inner a b i (outer a b i) (j + 1)).map D.int := by
          rw [← List.map_set, inner_succ]
        refine lp_nx (by simp [-Fl.rt.injEq, -Fl.nx.injEq, -Fl.er.injEq, -Fl.bk.injEq, -Fl.ct.injEq, -Res.ok.injEq, -List.cons.injEq, -Option.some.injEq, -Prod.mk.injEq, -O.val.injEq, -D.int.injEq, -D.nd.injEq, -List.getD_eq_getElem?_getD, -List.map_replicate, -List.map_take, -List.map_drop, -List.map_map, -List.map_append, -List.map_reverse, hk, hg', ix_iw hx, ix_iw hy, v_mul hm, hl, hs] <;> rfl) ?_
        exact ⟨_, rfl⟩
      · rintro _ ⟨x4, rfl⟩
        show ∃ x3 x4, _ = _
        rw [outer_succ, show ((List.range b.length).map nD).length = b.length by simp]
        exact ⟨_, _, rfl⟩
    · rintro _ ⟨x3, x4, rfl⟩
      rw [show ((List.range a.length).map nD).length = a.length by simp, outer_all]
      refine q_rt (by simp [-Fl.rt.injEq, -Fl.nx.injEq, -Fl.er.injEq, -Fl.bk.injEq, -Fl.ct.injEq, -Res.ok.injEq, -List.cons.injEq, -Option.some.injEq, -Prod.mk.injEq, -O.val.injEq, -D.int.injEq, -D.nd.injEq, -List.getD_eq_getElem?_getD, -List.map_replicate, -List.map_take, -List.map_drop, -List.map_map, -List.map_append, -List.map_reverse] <;> rfl) ?_
      rfl
theorem w_same_int {n : Nat} {i : Int} : F__law_same (n + 1) [.val (.int i), .val (.int i)] = .ok (.val (.bl true), .val .non) := by
  show defM _ _ _ _ = _
  refine fn_V ?_
  unfold m__law_same
  refine seq_nx (by simp [-Fl.rt.injEq, -Fl.nx.injEq, -Fl.er.injEq, -Fl.bk.injEq, -Fl.ct.injEq, -Res.ok.injEq, -List.cons.injEq, -Option.some.injEq, -Prod.mk.injEq, -O.val.injEq, -D.int.injEq, -D.nd.injEq, -List.getD_eq_getElem?_getD, -List.map_replicate, -List.map_take, -List.map_drop, -List.map_map, -List.map_append, -List.map_reverse] <;> rfl) ?_
  refine seq_nx (by simp [-Fl.rt.injEq, -Fl.nx.injEq, -Fl.er.injEq, -Fl.bk.injEq, -Fl.ct.injEq, -Res.ok.injEq, -List.cons.injEq, -Option.some.injEq, -Prod.mk.injEq, -O.val.injEq, -D.int.injEq, -D.nd.injEq, -List.getD_eq_getElem?_getD, -List.map_replicate, -List.map_take, -List.map_drop, -List.map_map, -List.map_append, -List.map_reverse, isD, D.isN] <;> rfl) ?_
  refine seq_nx (by simp [-Fl.rt.injEq, -Fl.nx.injEq, -Fl.er.injEq, -Fl.bk.injEq, -Fl.ct.injEq, -Res.ok.injEq, -List.cons.injEq, -Option.some.injEq, -Prod.mk.injEq, -O.val.injEq, -D.int.injEq, -D.nd.injEq, -List.getD_eq_getElem?_getD, -List.map_replicate, -List.map_take, -List.map_drop, -List.map_map, -List.map_append, -List.map_reverse] <;> rfl) ?_
  refine seq_nx (by simp [-Fl.rt.injEq, -Fl.nx.injEq, -Fl.er.injEq, -Fl.bk.injEq, -Fl.ct.injEq, -Res.ok.injEq, -List.cons.injEq, -Option.some.injEq, -Prod.mk.injEq, -O.val.injEq, -D.int.injEq, -D.nd.injEq, -List.getD_eq_getElem?_getD, -List.map_replicate, -List.map_take, -List.map_drop, -List.map_map, -List.map_append, -List.map_reverse] <;> rfl) ?_
  refine q_rt (by simp [-Fl.rt.injEq, -Fl.nx.injEq, -Fl.er.injEq, -Fl.bk.injEq, -Fl.ct.injEq, -Res.ok.injEq, -List.cons.injEq, -Option.some.injEq, -Prod.mk.injEq, -O.val.injEq, -D.int.injEq, -D.nd.injEq, -List.getD_eq_getElem?_getD, -List.map_replicate, -List.map_take, -List.map_drop, -List.map_map, -List.map_append, -List.map_reverse] <;> rfl) ?_
  rfl
theorem w_same {n : Nat} {a : List Int} (ha : a.length ≤ 1000) : F__law_same (n + 2) [.val (iw a), .val (iw a)] = .ok (.val (.bl true), .val .non) := by
  show defM _ _ _ _ = _
  refine fn_V ?_
  unfold m__law_same
  refine seq_t (by simp [-Fl.rt.injEq, -Fl.nx.injEq, -Fl.er.injEq, -Fl.bk.injEq, -Fl.ct.injEq, -Res.ok.injEq, -List.cons.injEq, -Option.some.injEq, -Prod.mk.injEq, -O.val.injEq, -D.int.injEq, -D.nd.injEq, -List.getD_eq_getElem?_getD, -List.map_replicate, -List.map_take, -List.map_drop, -List.map_map, -List.map_append, -List.map_reverse] <;> rfl) ?_
  refine seq_as ?_
  refine seq_nx (by simp [-Fl.rt.injEq, -Fl.nx.injEq, -Fl.er.injEq, -Fl.bk.injEq, -Fl.ct.injEq, -Res.ok.injEq, -List.cons.injEq, -Option.some.injEq, -Prod.mk.injEq, -O.val.injEq, -D.int.injEq, -D.nd.injEq, -List.getD_eq_getElem?_getD, -List.map_replicate, -List.map_take, -List.map_drop, -List.map_map, -List.map_append, -List.map_reverse] <;> rfl) ?_
  generalize hc : mcomp _ _ _ _ _ = C
  have h : C [some (.val (iw a)), some (.val (iw a)), none] = .ok _ := hc ▸ mcomp_rng (g := fun k => .bl true) (v_rangeN (by simp [-Fl.rt.injEq, -Fl.nx.injEq, -Fl.er.injEq, -Fl.bk.injEq, -Fl.ct.injEq, -Res.ok.injEq, -List.cons.injEq, -Option.some.injEq, -Prod.mk.injEq, -O.val.injEq, -D.int.injEq, -D.nd.injEq, -List.getD_eq_getElem?_getD, -List.map_replicate, -List.map_take, -List.map_drop, -List.map_map, -List.map_append, -List.map_reverse] <;> rfl) (by omega)) rfl (by omega) (by
    intro k hk
    have hx := ix_iw (getD_some hk)
    exact (by simp [-Fl.rt.injEq, -Fl.nx.injEq, -Fl.er.injEq, -Fl.bk.injEq, -Fl.ct.injEq, -Res.ok.injEq, -List.cons.injEq, -Option.some.injEq, -Prod.mk.injEq, -O.val.injEq, -D.int.injEq, -D.nd.injEq, -List.getD_eq_getElem?_getD, -List.map_replicate, -List.map_take, -List.map_drop, -List.map_map, -List.map_append, -List.map_reverse, hx, w_same_int] <;> rfl))
  have hi' : inD true (.bl false) (.nd .lst ((List.range a.length).map fun _ => .bl true)) = some (.bl true) := by
    rw [notIn_map (List.range a.length) (fun _ => true)]; simp
  refine seq_rt (by simp [-Fl.rt.injEq, -Fl.nx.injEq, -Fl.er.injEq, -Fl.bk.injEq, -Fl.ct.injEq, -Res.ok.injEq, -List.cons.injEq, -Option.some.injEq, -Prod.mk.injEq, -O.val.injEq, -D.int.injEq, -D.nd.injEq, -List.getD_eq_getElem?_getD, -List.map_replicate, -List.map_take, -List.map_drop, -List.map_map, -List.map_append, -List.map_reverse, h, hi'] <;> rfl) ?_
  rfl
end L52
set_option Elab.async false
set_option maxRecDepth 100000
set_option linter.all false
namespace L52
open PySem L2 Y
/-! ### sums, products turned about -/
theorem sm_comm {a b : List Int} : sm 1 b a = sm 1 a b := by
  unfold sm
  rw [Nat.max_comm]
  exact tbl_ext fun n _ => by omega
theorem sm_nil {c : List Int} : sm (-1) [] c = neg c := by
  have e : c = tbl c.length fun k => c.getD k 0 := by
    refine List.ext_getElem? fun i => ?_
    by_cases hi : i < c.length
    · rw [tbl_get hi]; simp [hi]
    · rw [List.getElem?_eq_none (by omega), List.getElem?_eq_none (by simp; omega)]
  have e2 : neg c = tbl c.length fun k => -(c.getD k 0) := by
    unfold neg
    conv => lhs; rw [e]
    rw [tbl_map]
  rw [e2]
  unfold sm
  simp only [List.length_nil, Nat.zero_max]
  exact tbl_ext fun n _ => by simp
theorem neg_trim {c : List Int} : neg (trim c) = trim (neg c) := by
  unfold neg trim
  rw [List.map_reverse, ← List.map_reverse (l := c), List.dropWhile_map]
  congr 2
  have : (fun x : Int => x == 0) ∘ (fun x : Int => -x) = fun x : Int => x == 0 := by
    funext x
    simp only [Function.comp]
    by_cases h : x = 0
    · subst h; rfl
    · have : -x ≠ 0 := by omega
      rw [beq_eq_false_iff_ne.mpr h, beq_eq_false_iff_ne.mpr this]
  rw [this]
theorem neg_sm {a b : List Int} : neg (sm (-1) a b) = sm (-1) b a := by
  unfold neg sm
  rw [tbl_map, Nat.max_comm]
  exact tbl_ext fun n _ => by omega
theorem less_back {a b : List Int} : trim (sm (-1) [] (trim (sm (-1) a b))) = trim (sm (-1) b a) := by
  rw [sm_nil, neg_trim, trim_trim, neg_sm]
/-- sums of so many -/
def su (f : Nat → Int) : Nat → Int
  | 0 => 0
  | n + 1 => su f n + f n
theorem su_add {f g : Nat → Int} : ∀ n, su (fun i => f i + g i) n = su f n + su g n
  | 0 => rfl
  | n + 1 => by simp only [su, su_add n]; omega
theorem su_zero : ∀ n, su (fun _ => 0) n = 0
  | 0 => rfl
  | n + 1 => by simp only [su, su_zero n]; rfl
theorem su_swap {g : Nat → Nat → Int} : ∀ k m, su (fun i => su (fun j => g i j) m) k = su (fun j => su (fun i => g i j) k) m
  | 0, m => by simp only [su]; exact (su_zero m).symm
  | k + 1, m => by
    simp only [su]
    rw [su_swap k m, ← su_add]
theorem su_congr {f g : Nat → Int} : ∀ {n}, (∀ i, i < n → f i = g i) → su f n = su g n
  | 0, _ => rfl
  | n + 1, h => by simp only [su]; rw [su_congr (n := n) fun i hi => h i (by omega), h n (by omega)]
def pc (a b : List Int) (n i j : Nat) : Int := if i + j = n then a.getD i 0 * b.getD j 0 else 0
theorem inner_tbl {a b : List Int} {i N : Nat} {f : Nat → Int} : ∀ k : Nat, i + k ≤ N → inner a b i (tbl N f) k = tbl N fun n => f n + su (pc a b n i) k
  | 0, _ => by
    show tbl N f = _
    exact tbl_ext fun n _ => by simp [su]
  | k + 1, h => by
    rw [inner_succ, inner_tbl k (by omega)]
    have e : (tbl N fun n => f n + su (pc a b n i) k).getD (i + k) 0 = f (i + k) + su (pc a b (i + k) i) k := by
      rw [List.getD_eq_getElem?_getD, tbl_get (by omega)]; rfl
    rw [e, tbl_set (by omega)]
    refine tbl_ext fun n _ => ?_
    by_cases hn : n = i + k
    · subst hn
      rw [if_pos rfl]
      simp only [su, pc, if_true]
      omega
    · rw [if_neg hn]
      simp only [su]
      have : pc a b n i k = 0 := by unfold pc; rw [if_neg (fun z => hn z.symm)]
      rw [this]; omega
theorem outer_tbl {a b : List Int} (hb : 0 < b.length) : ∀ k : Nat, k ≤ a.length → outer a b k = tbl (a.length + b.length - 1) fun n => su (fun i => su (pc a b n i) b.length) k
  | 0, _ => by
    show List.replicate _ _ = _
    rw [tbl_rep]
    exact tbl_ext fun n _ => rfl
  | k + 1, h => by
    rw [outer_succ, outer_tbl hb k (by omega), inner_tbl b.length (by omega)]
    exact tbl_ext fun n _ => rfl
theorem prod_comm {a b : List Int} : prod b a = prod a b := by
  unfold prod
  by_cases h : a = [] ∨ b = []
  · rw [if_pos h, if_pos h.symm]
  · rw [if_neg h, if_neg (fun z => h z.symm)]
    rw [not_or] at h
    have a1 := List.length_pos_iff.mpr h.1
    have b1 := List.length_pos_iff.mpr h.2
    rw [← outer_all, ← outer_all, outer_tbl b1 _ (Nat.le_refl _), outer_tbl a1 _ (Nat.le_refl _), Nat.add_comm]
    refine tbl_ext fun n _ => ?_
    rw [su_swap]
    refine su_congr fun i _ => su_congr fun j _ => ?_
    unfold pc
    rw [Nat.add_comm j i, Int.mul_comm]
theorem prod_len {a b : List Int} : (prod a b).length ≤ a.length + b.length := by
  unfold prod
  split
  · simp
  · rw [← outer_all, outer_len]; omega
end L52
set_option Elab.async false
set_option maxRecDepth 100000
set_option linter.all false
namespace L52
open PySem L2 Y
/-! ### what is drawn -/
theorem w_figures (c : Dk) {m : Nat} (h1 : 1 ≤ m) (h2 : m ≤ 30) : ∃ (v : Int) (c' : Dk), v.natAbs < 10 ^ m ∧ F__law_figures [dk c, .val (.int (m : Int))] = .ok (.val (.int v), dk c') := by
  have key : ∃ o o1, F__law_figures [dk c, .val (.int (m : Int))] = .ok (o, o1) ∧ ∃ (v : Int) (c' : Dk), v.natAbs < 10 ^ m ∧ o = .val (.int v) ∧ o1 = dk c' := by
    unfold F__law_figures
    refine fn_T ?_
    unfold m__law_figures
    refine seq_nx (by simp [-Fl.rt.injEq, -Fl.nx.injEq, -Fl.er.injEq, -Fl.bk.injEq, -Fl.ct.injEq, -Res.ok.injEq, -List.cons.injEq, -Option.some.injEq, -Prod.mk.injEq, -O.val.injEq, -D.int.injEq, -D.nd.injEq, -List.getD_eq_getElem?_getD, -List.map_replicate, -List.map_take, -List.map_drop, -List.map_map, -List.map_append, -List.map_reverse] <;> rfl) ?_
    obtain ⟨r, c1, hr, e⟩ := w_draw c (L := (m : Int)) (by omega) (by omega)
    have hg : irng1 (m2 addD (mret (.int 1)) (mfz (mcallR F__law_draw 0 (mcons (rd 1) (mret []))))) [some (dk c), some (.val (.int (m : Int))), some (.val (.int 0)), none] = .ok ((List.range (1 + r)).map nD, [some (dk c1), some (.val (.int (m : Int))), some (.val (.int 0)), none]) := v_rangeN (by simp [-Fl.rt.injEq, -Fl.nx.injEq, -Fl.er.injEq, -Fl.bk.injEq, -Fl.ct.injEq, -Res.ok.injEq, -List.cons.injEq, -Option.some.injEq, -Prod.mk.injEq, -O.val.injEq, -D.int.injEq, -D.nd.injEq, -List.getD_eq_getElem?_getD, -List.map_replicate, -List.map_take, -List.map_drop, -List.map_map, -List.map_append, -List.map_reverse, e] <;> rfl) (by omega)
    refine seq_for (fun k ρ => ∃ c v x, 0 ≤ v ∧ v < 10 ^ k ∧ ρ = [some (dk c), some (.val (.int (m : Int))), some (.val (.int v)), x]) hg ⟨c1, 0, none, by omega, by simp, rfl⟩ ?_ ?_
    · rintro k d ρ hd ⟨c, v, x, v0, v1, rfl⟩
      refine ⟨_, (by simp [-Fl.rt.injEq, -Fl.nx.injEq, -Fl.er.injEq, -Fl.bk.injEq, -Fl.ct.injEq, -Res.ok.injEq, -List.cons.injEq, -Option.some.injEq, -Prod.mk.injEq, -O.val.injEq, -D.int.injEq, -D.nd.injEq, -List.getD_eq_getElem?_getD, -List.map_replicate, -List.map_take, -List.map_drop, -List.map_map, -List.map_append, -List.map_reverse] <;> rfl), ?_⟩
      obtain ⟨q, c1, hq, e⟩ := w_draw c (L := 10) (by omega) (by omega)
      refine lp_nx (by simp [-Fl.rt.injEq, -Fl.nx.injEq, -Fl.er.injEq, -Fl.bk.injEq, -Fl.ct.injEq, -Res.ok.injEq, -List.cons.injEq, -Option.some.injEq, -Prod.mk.injEq, -O.val.injEq, -D.int.injEq, -D.nd.injEq, -List.getD_eq_getElem?_getD, -List.map_replicate, -List.map_take, -List.map_drop, -List.map_map, -List.map_append, -List.map_reverse, v_mul (mulS (i := v) (j := 10) (by decide)), e] <;> rfl) ?_
      refine ⟨c1, v * 10 + q, _, by omega, ?_, rfl⟩
      rw [Int.pow_succ]; omega
    · rintro ρ ⟨c, v, x, v0, v1, rfl⟩
      obtain ⟨q, c1, hq, e⟩ := w_draw c (L := 2) (by omega) (by omega)
      have hl : ((List.range (1 + r)).map nD).length = 1 + r := by simp
      rw [hl] at v1
      have hb : v.natAbs < 10 ^ m := by
        have : (10 : Int) ^ (1 + r) ≤ 10 ^ m := by
          have := Nat.pow_le_pow_right (show 0 < 10 by decide) (show 1 + r ≤ m by omega)
          exact_mod_cast this
        have h3 : ((10 ^ m : Nat) : Int) = (10 : Int) ^ m := by simp
        omega
      by_cases h0 : q = 0
      · refine q_rt (by simp [-Fl.rt.injEq, -Fl.nx.injEq, -Fl.er.injEq, -Fl.bk.injEq, -Fl.ct.injEq, -Res.ok.injEq, -List.cons.injEq, -Option.some.injEq, -Prod.mk.injEq, -O.val.injEq, -D.int.injEq, -D.nd.injEq, -List.getD_eq_getElem?_getD, -List.map_replicate, -List.map_take, -List.map_drop, -List.map_map, -List.map_append, -List.map_reverse, e, h0] <;> rfl) ?_
        exact ⟨v, c1, hb, rfl, rfl⟩
      · refine q_rt (by simp [-Fl.rt.injEq, -Fl.nx.injEq, -Fl.er.injEq, -Fl.bk.injEq, -Fl.ct.injEq, -Res.ok.injEq, -List.cons.injEq, -Option.some.injEq, -Prod.mk.injEq, -O.val.injEq, -D.int.injEq, -D.nd.injEq, -List.getD_eq_getElem?_getD, -List.map_replicate, -List.map_take, -List.map_drop, -List.map_map, -List.map_append, -List.map_reverse, e, h0] <;> rfl) ?_
        exact ⟨-v, c1, by omega, rfl, rfl⟩
  obtain ⟨_, _, e, v, c', h, rfl, rfl⟩ := key
  exact ⟨v, c', h, e⟩
/-- a polynomial drawn -/
structure Pd (a : List Int) : Prop where
  l : a.length ≤ 40
  b : ∀ x ∈ a, x.natAbs < 10 ^ 30
  t : a.getLast? ≠ some 0
theorem Pd.pol {a : List Int} (h : Pd a) : Pol a := ⟨⟨by have := h.l; omega, fun x hx => Nat.lt_trans (h.b x hx) (by decide +kernel)⟩, h.t⟩
theorem pd_trim {l : List Int} (h : l.length ≤ 40) (hb : ∀ x ∈ l, x.natAbs < 10 ^ 30) : Pd (trim l) := ⟨Nat.le_trans trim_len h, fun x hx => hb x (trim_mem hx), trim_last⟩
theorem w_drawn (c : Dk) {m f : Nat} (hm : m ≤ 40) (h1 : 1 ≤ f) (h2 : f ≤ 30) : ∃ (l : List Int) (c' : Dk), Pd l ∧ F__law_drawn [dk c, .val (.int (m : Int)), .val (.int (f : Int))] = .ok (.val (iw l), dk c') := by
  have key : ∃ o o1, F__law_drawn [dk c, .val (.int (m : Int)), .val (.int (f : Int))] = .ok (o, o1) ∧ ∃ (l : List Int) (c' : Dk), Pd l ∧ o = .val (iw l) ∧ o1 = dk c' := by
    unfold F__law_drawn
    refine fn_T ?_
    unfold m__law_drawn
    obtain ⟨r, c1, hr, e⟩ := w_draw c (L := (m : Int) + 1) (by omega) (by omega)
    generalize hc : mcomp _ _ _ _ _ = C
    obtain ⟨l, ρ', e2, l', cc, rfl, hl, hb, rfl⟩ : ∃ l ρ', C [some (dk c), some (.val (.int (m : Int))), some (.val (.int (f : Int))), none, none] = .ok (nl l, ρ') ∧ ∃ (l' : List Int) (c : Dk), l = l'.map .int ∧ l'.length = ((List.range r).map nD).length ∧ (∀ x ∈ l', x.natAbs < 10 ^ 30) ∧ ρ' = [some (dk c), some (.val (.int (m : Int))), some (.val (.int (f : Int))), none, none] :=
      hc ▸ mcomp_ix (fun k acc ρ => ∃ (l' : List Int) (c : Dk), acc = l'.map .int ∧ l'.length = k ∧ (∀ x ∈ l', x.natAbs < 10 ^ 30) ∧ ρ = [some (dk c), some (.val (.int (m : Int))), some (.val (.int (f : Int))), none, none])
        (v_rangeN (n := r) (ρ' := [some (dk c1), some (.val (.int (m : Int))), some (.val (.int (f : Int))), none, none]) (by simp [-Fl.rt.injEq, -Fl.nx.injEq, -Fl.er.injEq, -Fl.bk.injEq, -Fl.ct.injEq, -Res.ok.injEq, -List.cons.injEq, -Option.some.injEq, -Prod.mk.injEq, -O.val.injEq, -D.int.injEq, -D.nd.injEq, -List.getD_eq_getElem?_getD, -List.map_replicate, -List.map_take, -List.map_drop, -List.map_map, -List.map_append, -List.map_reverse, e] <;> rfl) (by omega)) ⟨[], c1, rfl, rfl, by simp, rfl⟩ (by
        rintro k acc d ρ hd ⟨l', c, rfl, hl, hb, rfl⟩
        obtain ⟨hk, rfl⟩ := range_get hd
        refine ⟨_, (by simp [-Fl.rt.injEq, -Fl.nx.injEq, -Fl.er.injEq, -Fl.bk.injEq, -Fl.ct.injEq, -Res.ok.injEq, -List.cons.injEq, -Option.some.injEq, -Prod.mk.injEq, -O.val.injEq, -D.int.injEq, -D.nd.injEq, -List.getD_eq_getElem?_getD, -List.map_replicate, -List.map_take, -List.map_drop, -List.map_map, -List.map_append, -List.map_reverse] <;> rfl), .inl ?_⟩
        obtain ⟨q, c1, hq, e⟩ := w_draw c (L := 4) (by omega) (by omega)
        have hz : (l'.map D.int).length < sizeLine := by rw [List.length_map]; exact smallT (by omega)
        by_cases h0 : 0 < q
        · obtain ⟨v, c2, hv, e3⟩ := w_figures c1 h1 h2
          refine ⟨_, .int v, [some (dk c2), some (.val (.int (m : Int))), some (.val (.int (f : Int))), none, some (.val (.int (k : Int)))], rfl, (by simp [-Fl.rt.injEq, -Fl.nx.injEq, -Fl.er.injEq, -Fl.bk.injEq, -Fl.ct.injEq, -Res.ok.injEq, -List.cons.injEq, -Option.some.injEq, -Prod.mk.injEq, -O.val.injEq, -D.int.injEq, -D.nd.injEq, -List.getD_eq_getElem?_getD, -List.map_replicate, -List.map_take, -List.map_drop, -List.map_map, -List.map_append, -List.map_reverse, e, e3, gtDv, h0] <;> rfl), hz, l' ++ [v], c2, by simp, by simp [hl], ?_, rfl⟩
          intro x hx
          rcases List.mem_append.mp hx with hx | hx
          · exact hb x hx
          · obtain rfl : x = v := by simpa using hx
            exact Nat.lt_of_lt_of_le hv (Nat.pow_le_pow_right (by decide) h2)
        · refine ⟨_, .int 0, [some (dk c1), some (.val (.int (m : Int))), some (.val (.int (f : Int))), none, some (.val (.int (k : Int)))], rfl, (by simp [-Fl.rt.injEq, -Fl.nx.injEq, -Fl.er.injEq, -Fl.bk.injEq, -Fl.ct.injEq, -Res.ok.injEq, -List.cons.injEq, -Option.some.injEq, -Prod.mk.injEq, -O.val.injEq, -D.int.injEq, -D.nd.injEq, -List.getD_eq_getElem?_getD, -List.map_replicate, -List.map_take, -List.map_drop, -List.map_map, -List.map_append, -List.map_reverse, e, gtDv, h0] <;> rfl), hz, l' ++ [0], c1, by simp, by simp [hl], ?_, rfl⟩
          intro x hx
          rcases List.mem_append.mp hx with hx | hx
          · exact hb x hx
          · obtain rfl : x = 0 := by simpa using hx
            decide)
    simp at hl
    refine seq_nx (by simp [-Fl.rt.injEq, -Fl.nx.injEq, -Fl.er.injEq, -Fl.bk.injEq, -Fl.ct.injEq, -Res.ok.injEq, -List.cons.injEq, -Option.some.injEq, -Prod.mk.injEq, -O.val.injEq, -D.int.injEq, -D.nd.injEq, -List.getD_eq_getElem?_getD, -List.map_replicate, -List.map_take, -List.map_drop, -List.map_map, -List.map_append, -List.map_reverse, e2] <;> rfl) ?_
    have ht := w_ltrim (l := l') (d := il l') rfl (by omega)
    refine q_rt (by simp [-Fl.rt.injEq, -Fl.nx.injEq, -Fl.er.injEq, -Fl.bk.injEq, -Fl.ct.injEq, -Res.ok.injEq, -List.cons.injEq, -Option.some.injEq, -Prod.mk.injEq, -O.val.injEq, -D.int.injEq, -D.nd.injEq, -List.getD_eq_getElem?_getD, -List.map_replicate, -List.map_take, -List.map_drop, -List.map_map, -List.map_append, -List.map_reverse, ht] <;> rfl) ?_
    exact ⟨trim l', cc, pd_trim (by omega) hb, rfl, rfl⟩
  obtain ⟨_, _, e, v, c', h, rfl, rfl⟩ := key
  exact ⟨v, c', h, e⟩
theorem w_kin (c : Dk) {a : List Int} (ha : Pd a) : ∃ (l : List Int) (c' : Dk), Pd l ∧ F__law_kin [dk c, .val (iw a)] = .ok (.val (iw l), dk c') := by
  have key : ∃ o o1, F__law_kin [dk c, .val (iw a)] = .ok (o, o1) ∧ ∃ (l : List Int) (c' : Dk), Pd l ∧ o = .val (iw l) ∧ o1 = dk c' := by
    have hal := ha.l
    unfold F__law_kin
    refine fn_T ?_
    unfold m__law_kin
    obtain ⟨r, c1, hr, e⟩ := w_draw c (L := (a.length : Int) + 1) (by omega) (by omega)
    refine seq_nx (by simp [-Fl.rt.injEq, -Fl.nx.injEq, -Fl.er.injEq, -Fl.bk.injEq, -Fl.ct.injEq, -Res.ok.injEq, -List.cons.injEq, -Option.some.injEq, -Prod.mk.injEq, -O.val.injEq, -D.int.injEq, -D.nd.injEq, -List.getD_eq_getElem?_getD, -List.map_replicate, -List.map_take, -List.map_drop, -List.map_map, -List.map_append, -List.map_reverse, e] <;> rfl) ?_
    obtain ⟨q, c2, hq, e⟩ := w_draw c1 (L := 2) (by omega) (by omega)
    have hm : mulD (.int 2) (.int (q : Int)) = some (.int (2 * (q : Int))) := v_mul (mulS' (by decide))
    refine seq_nx (by simp [-Fl.rt.injEq, -Fl.nx.injEq, -Fl.er.injEq, -Fl.bk.injEq, -Fl.ct.injEq, -Res.ok.injEq, -List.cons.injEq, -Option.some.injEq, -Prod.mk.injEq, -O.val.injEq, -D.int.injEq, -D.nd.injEq, -List.getD_eq_getElem?_getD, -List.map_replicate, -List.map_take, -List.map_drop, -List.map_map, -List.map_append, -List.map_reverse, e, hm] <;> rfl) ?_
    generalize hs : 1 - 2 * (q : Int) = s
    have hs1 : s.natAbs ≤ 1 := by omega
    generalize hc1 : mcomp [4] _ _ _ _ = C1
    generalize hc2 : mcomp [5] _ _ _ _ = C2
    obtain ⟨l, ρ', e2, l', cc, rfl, hl, hb, rfl⟩ : ∃ l ρ', C1 [some (dk c2), some (.val (iw a)), some (.val (.int (r : Int))), some (.val (.int s)), none, none] = .ok (nl l, ρ') ∧ ∃ (l' : List Int) (c : Dk), l = l'.map .int ∧ l'.length = ((List.range r).map nD).length ∧ (∀ x ∈ l', x.natAbs < 10 ^ 30) ∧ ρ' = [some (dk c), some (.val (iw a)), some (.val (.int (r : Int))), some (.val (.int s)), none, none] :=
      hc1 ▸ mcomp_ix (fun k acc ρ => ∃ (l' : List Int) (c : Dk), acc = l'.map .int ∧ l'.length = k ∧ (∀ x ∈ l', x.natAbs < 10 ^ 30) ∧ ρ = [some (dk c), some (.val (iw a)), some (.val (.int (r : Int))), some (.val (.int s)), none, none])
        (v_rangeN (n := r) (ρ' := [some (dk c2), some (.val (iw a)), some (.val (.int (r : Int))), some (.val (.int s)), none, none]) (by simp [-Fl.rt.injEq, -Fl.nx.injEq, -Fl.er.injEq, -Fl.bk.injEq, -Fl.ct.injEq, -Res.ok.injEq, -List.cons.injEq, -Option.some.injEq, -Prod.mk.injEq, -O.val.injEq, -D.int.injEq, -D.nd.injEq, -List.getD_eq_getElem?_getD, -List.map_replicate, -List.map_take, -List.map_drop, -List.map_map, -List.map_append, -List.map_reverse] <;> rfl) (by omega)) ⟨[], c2, rfl, rfl, by simp, rfl⟩ (by
        rintro k acc d ρ hd ⟨l', c, rfl, hl, hb, rfl⟩
        obtain ⟨hk, rfl⟩ := range_get hd
        refine ⟨_, (by simp [-Fl.rt.injEq, -Fl.nx.injEq, -Fl.er.injEq, -Fl.bk.injEq, -Fl.ct.injEq, -Res.ok.injEq, -List.cons.injEq, -Option.some.injEq, -Prod.mk.injEq, -O.val.injEq, -D.int.injEq, -D.nd.injEq, -List.getD_eq_getElem?_getD, -List.map_replicate, -List.map_take, -List.map_drop, -List.map_map, -List.map_append, -List.map_reverse] <;> rfl), .inl ?_⟩
        have hz : (l'.map D.int).length < sizeLine := by rw [List.length_map]; exact smallT (by omega)
        obtain ⟨v, c2, hv, e3⟩ := w_figures c (m := 3) (by decide) (by decide)
        have e3' : F__law_figures [dk c, .val (.int 3)] = .ok (.val (.int v), dk c2) := e3
        refine ⟨_, .int v, [some (dk c2), some (.val (iw a)), some (.val (.int (r : Int))), some (.val (.int s)), some (.val (.int (k : Int))), none], rfl, (by simp [-Fl.rt.injEq, -Fl.nx.injEq, -Fl.er.injEq, -Fl.bk.injEq, -Fl.ct.injEq, -Res.ok.injEq, -List.cons.injEq, -Option.some.injEq, -Prod.mk.injEq, -O.val.injEq, -D.int.injEq, -D.nd.injEq, -List.getD_eq_getElem?_getD, -List.map_replicate, -List.map_take, -List.map_drop, -List.map_map, -List.map_append, -List.map_reverse, e3'] <;> rfl), hz, l' ++ [v], c2, by simp, by simp [hl], ?_, rfl⟩
        intro x hx
        rcases List.mem_append.mp hx with hx | hx
        · exact hb x hx
        · obtain rfl : x = v := by simpa using hx
          exact Nat.lt_of_lt_of_le hv (by decide))
    have hd := cutT_hi (l := a) (n := r)
    have e3 : C2 [some (dk cc), some (.val (iw a)), some (.val (.int (r : Int))), some (.val (.int s)), none, none] = .ok _ := hc2 ▸ mcomp_ints (g := fun x => .int (s * x)) (l := a.drop r) (by simp [-Fl.rt.injEq, -Fl.nx.injEq, -Fl.er.injEq, -Fl.bk.injEq, -Fl.ct.injEq, -Res.ok.injEq, -List.cons.injEq, -Option.some.injEq, -Prod.mk.injEq, -O.val.injEq, -D.int.injEq, -D.nd.injEq, -List.getD_eq_getElem?_getD, -List.map_replicate, -List.map_take, -List.map_drop, -List.map_map, -List.map_append, -List.map_reverse, mcutT, mpart, hd] <;> rfl) rfl (by simp; omega) (by
      intro x hx
      exact (by simp [-Fl.rt.injEq, -Fl.nx.injEq, -Fl.er.injEq, -Fl.bk.injEq, -Fl.ct.injEq, -Res.ok.injEq, -List.cons.injEq, -Option.some.injEq, -Prod.mk.injEq, -O.val.injEq, -D.int.injEq, -D.nd.injEq, -List.getD_eq_getElem?_getD, -List.map_replicate, -List.map_take, -List.map_drop, -List.map_map, -List.map_append, -List.map_reverse, v_mul (mulS' (i := s) (j := x) (by omega))] <;> rfl))
    have e4 : (a.drop r).map (fun x => D.int (s * x)) = ((a.drop r).map fun x => s * x).map .int := by rw [List.map_map]; rfl
    rw [e4] at e3
    simp at hl
    have e5 := cat_il (a := l') (b := (a.drop r).map fun x => s * x) (by simp; omega)
    have ht := w_ltrim (l := l' ++ (a.drop r).map fun x => s * x) (d := il (l' ++ (a.drop r).map fun x => s * x)) rfl (by simp; omega)
    refine q_rt (by simp [-Fl.rt.injEq, -Fl.nx.injEq, -Fl.er.injEq, -Fl.bk.injEq, -Fl.ct.injEq, -Res.ok.injEq, -List.cons.injEq, -Option.some.injEq, -Prod.mk.injEq, -O.val.injEq, -D.int.injEq, -D.nd.injEq, -List.getD_eq_getElem?_getD, -List.map_replicate, -List.map_take, -List.map_drop, -List.map_map, -List.map_append, -List.map_reverse, e2, e3, e5, ht] <;> rfl) ?_
    refine ⟨_, cc, pd_trim ?_ ?_, rfl, rfl⟩
    · simp; omega
    · intro x hx
      rcases List.mem_append.mp hx with hx | hx
      · exact hb x hx
      · obtain ⟨y, hy, rfl⟩ := List.mem_map.mp hx
        have h1 := ha.b y (List.mem_of_mem_drop hy)
        rw [Int.natAbs_mul]
        have : s.natAbs * y.natAbs ≤ 1 * y.natAbs := Nat.mul_le_mul_right _ hs1
        omega
  obtain ⟨_, _, e, v, c', h, rfl, rfl⟩ := key
  exact ⟨v, c', h, e⟩
end L52
set_option Elab.async false
set_option maxRecDepth 100000
set_option linter.all false
namespace L52
open PySem L2 Y
/-! ### what is told -/
section
variable {d e r x s : D}
theorem told0 (h : F_plus [.val d, .val e] = .ok (.val r, .val .non)) (nm : Bool) : F__law_told [.val (.int 0), .val d, .val e, .val (.bl nm)] = .ok (.val (.nd .tup [.str "told", r]), .val .non) := by
  unfold F__law_told
  refine fn_V ?_
  unfold m__law_told
  cases nm
  · refine q_rt (by simp [-Fl.rt.injEq, -Fl.nx.injEq, -Fl.er.injEq, -Fl.bk.injEq, -Fl.ct.injEq, -Res.ok.injEq, -List.cons.injEq, -Option.some.injEq, -Prod.mk.injEq, -O.val.injEq, -D.int.injEq, -D.nd.injEq, -List.getD_eq_getElem?_getD, -List.map_replicate, -List.map_take, -List.map_drop, -List.map_map, -List.map_append, -List.map_reverse, stry, h] <;> rfl) ?_
    rfl
  · refine q_rt (by simp [-Fl.rt.injEq, -Fl.nx.injEq, -Fl.er.injEq, -Fl.bk.injEq, -Fl.ct.injEq, -Res.ok.injEq, -List.cons.injEq, -Option.some.injEq, -Prod.mk.injEq, -O.val.injEq, -D.int.injEq, -D.nd.injEq, -List.getD_eq_getElem?_getD, -List.map_replicate, -List.map_take, -List.map_drop, -List.map_map, -List.map_append, -List.map_reverse, stry, h] <;> rfl) ?_
    rfl
theorem toldP0 (h : F_plus [.val d, .val e] = .er 3 [x] []) (hs : reprD [x] = some s) (nm : Bool) : F__law_told [.val (.int 0), .val d, .val e, .val (.bl nm)] = .ok (.val (.nd .tup [.str "polynomial", s]), .val .non) := by
  unfold F__law_told
  refine fn_V ?_
  unfold m__law_told
  cases nm
  · refine q_rt (by simp [-Fl.rt.injEq, -Fl.nx.injEq, -Fl.er.injEq, -Fl.bk.injEq, -Fl.ct.injEq, -Res.ok.injEq, -List.cons.injEq, -Option.some.injEq, -Prod.mk.injEq, -O.val.injEq, -D.int.injEq, -D.nd.injEq, -List.getD_eq_getElem?_getD, -List.map_replicate, -List.map_take, -List.map_drop, -List.map_map, -List.map_append, -List.map_reverse, stry, h, hand, okI, cls?, clr, mt_InvalidPolynomial, mt_NormalError, mt_InvalidNumber, mt_InvalidRows, mt_InvalidWord, mt_Undefined, mtT_ValueError, hs] <;> rfl) ?_
    rfl
  · refine q_rt (by simp [-Fl.rt.injEq, -Fl.nx.injEq, -Fl.er.injEq, -Fl.bk.injEq, -Fl.ct.injEq, -Res.ok.injEq, -List.cons.injEq, -Option.some.injEq, -Prod.mk.injEq, -O.val.injEq, -D.int.injEq, -D.nd.injEq, -List.getD_eq_getElem?_getD, -List.map_replicate, -List.map_take, -List.map_drop, -List.map_map, -List.map_append, -List.map_reverse, stry, h, hand, okI, cls?, clr, mt_InvalidPolynomial, mt_NormalError, mt_InvalidNumber, mt_InvalidRows, mt_InvalidWord, mt_Undefined, mtT_ValueError, hs] <;> rfl) ?_
    rfl
theorem told1 (h : F_less [.val d, .val e] = .ok (.val r, .val .non)) (nm : Bool) : F__law_told [.val (.int 1), .val d, .val e, .val (.bl nm)] = .ok (.val (.nd .tup [.str "told", r]), .val .non) := by
  unfold F__law_told
  refine fn_V ?_
  unfold m__law_told
  cases nm
  · refine q_rt (by simp [-Fl.rt.injEq, -Fl.nx.injEq, -Fl.er.injEq, -Fl.bk.injEq, -Fl.ct.injEq, -Res.ok.injEq, -List.cons.injEq, -Option.some.injEq, -Prod.mk.injEq, -O.val.injEq, -D.int.injEq, -D.nd.injEq, -List.getD_eq_getElem?_getD, -List.map_replicate, -List.map_take, -List.map_drop, -List.map_map, -List.map_append, -List.map_reverse, stry, h] <;> rfl) ?_
    rfl
  · refine q_rt (by simp [-Fl.rt.injEq, -Fl.nx.injEq, -Fl.er.injEq, -Fl.bk.injEq, -Fl.ct.injEq, -Res.ok.injEq, -List.cons.injEq, -Option.some.injEq, -Prod.mk.injEq, -O.val.injEq, -D.int.injEq, -D.nd.injEq, -List.getD_eq_getElem?_getD, -List.map_replicate, -List.map_take, -List.map_drop, -List.map_map, -List.map_append, -List.map_reverse, stry, h] <;> rfl) ?_
    rfl
theorem toldP1 (h : F_less [.val d, .val e] = .er 3 [x] []) (hs : reprD [x] = some s) (nm : Bool) : F__law_told [.val (.int 1), .val d, .val e, .val (.bl nm)] = .ok (.val (.nd .tup [.str "polynomial", s]), .val .non) := by
  unfold F__law_told
  refine fn_V ?_
  unfold m__law_told
  cases nm
  · refine q_rt (by simp [-Fl.rt.injEq, -Fl.nx.injEq, -Fl.er.injEq, -Fl.bk.injEq, -Fl.ct.injEq, -Res.ok.injEq, -List.cons.injEq, -Option.some.injEq, -Prod.mk.injEq, -O.val.injEq, -D.int.injEq, -D.nd.injEq, -List.getD_eq_getElem?_getD, -List.map_replicate, -List.map_take, -List.map_drop, -List.map_map, -List.map_append, -List.map_reverse, stry, h, hand, okI, cls?, clr, mt_InvalidPolynomial, mt_NormalError, mt_InvalidNumber, mt_InvalidRows, mt_InvalidWord, mt_Undefined, mtT_ValueError, hs] <;> rfl) ?_
    rfl
  · refine q_rt (by simp [-Fl.rt.injEq, -Fl.nx.injEq, -Fl.er.injEq, -Fl.bk.injEq, -Fl.ct.injEq, -Res.ok.injEq, -List.cons.injEq, -Option.some.injEq, -Prod.mk.injEq, -O.val.injEq, -D.int.injEq, -D.nd.injEq, -List.getD_eq_getElem?_getD, -List.map_replicate, -List.map_take, -List.map_drop, -List.map_map, -List.map_append, -List.map_reverse, stry, h, hand, okI, cls?, clr, mt_InvalidPolynomial, mt_NormalError, mt_InvalidNumber, mt_InvalidRows, mt_InvalidWord, mt_Undefined, mtT_ValueError, hs] <;> rfl) ?_
    rfl
theorem told2 (h : F_times [.val d, .val e] = .ok (.val r, .val .non)) (nm : Bool) : F__law_told [.val (.int 2), .val d, .val e, .val (.bl nm)] = .ok (.val (.nd .tup [.str "told", r]), .val .non) := by
  unfold F__law_told
  refine fn_V ?_
  unfold m__law_told
  cases nm
  · refine q_rt (by simp [-Fl.rt.injEq, -Fl.nx.injEq, -Fl.er.injEq, -Fl.bk.injEq, -Fl.ct.injEq, -Res.ok.injEq, -List.cons.injEq, -Option.some.injEq, -Prod.mk.injEq, -O.val.injEq, -D.int.injEq, -D.nd.injEq, -List.getD_eq_getElem?_getD, -List.map_replicate, -List.map_take, -List.map_drop, -List.map_map, -List.map_append, -List.map_reverse, stry, h] <;> rfl) ?_
    rfl
  · refine q_rt (by simp [-Fl.rt.injEq, -Fl.nx.injEq, -Fl.er.injEq, -Fl.bk.injEq, -Fl.ct.injEq, -Res.ok.injEq, -List.cons.injEq, -Option.some.injEq, -Prod.mk.injEq, -O.val.injEq, -D.int.injEq, -D.nd.injEq, -List.getD_eq_getElem?_getD, -List.map_replicate, -List.map_take, -List.map_drop, -List.map_map, -List.map_append, -List.map_reverse, stry, h] <;> rfl) ?_
    rfl
theorem toldP2 (h : F_times [.val d, .val e] = .er 3 [x] []) (hs : reprD [x] = some s) (nm : Bool) : F__law_told [.val (.int 2), .val d, .val e, .val (.bl nm)] = .ok (.val (.nd .tup [.str "polynomial", s]), .val .non) := by
  unfold F__law_told
  refine fn_V ?_
  unfold m__law_told
  cases nm
  · refine q_rt (by simp [-Fl.rt.injEq, -Fl.nx.injEq, -Fl.er.injEq, -Fl.bk.injEq, -Fl.ct.injEq, -Res.ok.injEq, -List.cons.injEq, -Option.some.injEq, -Prod.mk.injEq, -O.val.injEq, -D.int.injEq, -D.nd.injEq, -List.getD_eq_getElem?_getD, -List.map_replicate, -List.map_take, -List.map_drop, -List.map_map, -List.map_append, -List.map_reverse, stry, h, hand, okI, cls?, clr, mt_InvalidPolynomial, mt_NormalError, mt_InvalidNumber, mt_InvalidRows, mt_InvalidWord, mt_Undefined, mtT_ValueError, hs] <;> rfl) ?_
    rfl
  · refine q_rt (by simp [-Fl.rt.injEq, -Fl.nx.injEq, -Fl.er.injEq, -Fl.bk.injEq, -Fl.ct.injEq, -Res.ok.injEq, -List.cons.injEq, -Option.some.injEq, -Prod.mk.injEq, -O.val.injEq, -D.int.injEq, -D.nd.injEq, -List.getD_eq_getElem?_getD, -List.map_replicate, -List.map_take, -List.map_drop, -List.map_map, -List.map_append, -List.map_reverse, stry, h, hand, okI, cls?, clr, mt_InvalidPolynomial, mt_NormalError, mt_InvalidNumber, mt_InvalidRows, mt_InvalidWord, mt_Undefined, mtT_ValueError, hs] <;> rfl) ?_
    rfl
theorem told3 (h : F_value_at [.val d, .val e] = .ok (.val r, .val .non)) (nm : Bool) : F__law_told [.val (.int 3), .val d, .val e, .val (.bl nm)] = .ok (.val (.nd .tup [.str "told", r]), .val .non) := by
  unfold F__law_told
  refine fn_V ?_
  unfold m__law_told
  cases nm
  · refine q_rt (by simp [-Fl.rt.injEq, -Fl.nx.injEq, -Fl.er.injEq, -Fl.bk.injEq, -Fl.ct.injEq, -Res.ok.injEq, -List.cons.injEq, -Option.some.injEq, -Prod.mk.injEq, -O.val.injEq, -D.int.injEq, -D.nd.injEq, -List.getD_eq_getElem?_getD, -List.map_replicate, -List.map_take, -List.map_drop, -List.map_map, -List.map_append, -List.map_reverse, stry, h] <;> rfl) ?_
    rfl
  · refine q_rt (by simp [-Fl.rt.injEq, -Fl.nx.injEq, -Fl.er.injEq, -Fl.bk.injEq, -Fl.ct.injEq, -Res.ok.injEq, -List.cons.injEq, -Option.some.injEq, -Prod.mk.injEq, -O.val.injEq, -D.int.injEq, -D.nd.injEq, -List.getD_eq_getElem?_getD, -List.map_replicate, -List.map_take, -List.map_drop, -List.map_map, -List.map_append, -List.map_reverse, stry, h] <;> rfl) ?_
    rfl
theorem toldP3 (h : F_value_at [.val d, .val e] = .er 3 [x] []) (hs : reprD [x] = some s) (nm : Bool) : F__law_told [.val (.int 3), .val d, .val e, .val (.bl nm)] = .ok (.val (.nd .tup [.str "polynomial", s]), .val .non) := by
  unfold F__law_told
  refine fn_V ?_
  unfold m__law_told
  cases nm
  · refine q_rt (by simp [-Fl.rt.injEq, -Fl.nx.injEq, -Fl.er.injEq, -Fl.bk.injEq, -Fl.ct.injEq, -Res.ok.injEq, -List.cons.injEq, -Option.some.injEq, -Prod.mk.injEq, -O.val.injEq, -D.int.injEq, -D.nd.injEq, -List.getD_eq_getElem?_getD, -List.map_replicate, -List.map_take, -List.map_drop, -List.map_map, -List.map_append, -List.map_reverse, stry, h, hand, okI, cls?, clr, mt_InvalidPolynomial, mt_NormalError, mt_InvalidNumber, mt_InvalidRows, mt_InvalidWord, mt_Undefined, mtT_ValueError, hs] <;> rfl) ?_
    rfl
  · refine q_rt (by simp [-Fl.rt.injEq, -Fl.nx.injEq, -Fl.er.injEq, -Fl.bk.injEq, -Fl.ct.injEq, -Res.ok.injEq, -List.cons.injEq, -Option.some.injEq, -Prod.mk.injEq, -O.val.injEq, -D.int.injEq, -D.nd.injEq, -List.getD_eq_getElem?_getD, -List.map_replicate, -List.map_take, -List.map_drop, -List.map_map, -List.map_append, -List.map_reverse, stry, h, hand, okI, cls?, clr, mt_InvalidPolynomial, mt_NormalError, mt_InvalidNumber, mt_InvalidRows, mt_InvalidWord, mt_Undefined, mtT_ValueError, hs] <;> rfl) ?_
    rfl
theorem toldN (h : F_value_at [.val d, .val e] = .er 1 [x] []) (hs : reprD [x] = some s) (nm : Bool) : F__law_told [.val (.int 3), .val d, .val e, .val (.bl nm)] = .ok (.val (.nd .tup [.str "number", s]), .val .non) := by
  unfold F__law_told
  refine fn_V ?_
  unfold m__law_told
  cases nm
  · refine q_rt (by simp [-Fl.rt.injEq, -Fl.nx.injEq, -Fl.er.injEq, -Fl.bk.injEq, -Fl.ct.injEq, -Res.ok.injEq, -List.cons.injEq, -Option.some.injEq, -Prod.mk.injEq, -O.val.injEq, -D.int.injEq, -D.nd.injEq, -List.getD_eq_getElem?_getD, -List.map_replicate, -List.map_take, -List.map_drop, -List.map_map, -List.map_append, -List.map_reverse, stry, h, hand, okI, cls?, clr, mt_InvalidPolynomial, mt_InvalidNumber, hs] <;> rfl) ?_
    rfl
  · refine q_rt (by simp [-Fl.rt.injEq, -Fl.nx.injEq, -Fl.er.injEq, -Fl.bk.injEq, -Fl.ct.injEq, -Res.ok.injEq, -List.cons.injEq, -Option.some.injEq, -Prod.mk.injEq, -O.val.injEq, -D.int.injEq, -D.nd.injEq, -List.getD_eq_getElem?_getD, -List.map_replicate, -List.map_take, -List.map_drop, -List.map_map, -List.map_append, -List.map_reverse, stry, h, hand, okI, cls?, clr, mt_InvalidPolynomial, mt_InvalidNumber, hs] <;> rfl) ?_
    rfl
end
/-! ### values that are none -/
def odds (a : List Int) (n : Nat) : List D :=
  let t := a.map D.int
  let u := (a.take n).map D.int
  let v := (a.drop n).map D.int
  [.nd .tup (t ++ [.int 0]), .nd .lst (t ++ [.int 1]), .nd .tup (t ++ [.bl true]), .nd .tup (u ++ [.non] ++ v ++ [.int 1]), .nd .tup [.int 0], .nd .tup (t ++ [.int 0, .int 0]),
   .nd .tup (u ++ [.bl (n != 0)] ++ v ++ [.int 1]), .nd .tup [.nd .tup [.int 1]], .non, .int 0, .int 1, .bl true, .str "", .str "1", .nd .lst [], .nd .tup [.nd .lst []],
   .nd .tup (t ++ [.str "1"]), .nd .tup [iw a, .nd .tup [.int 1]], .nd .tup (u ++ [.nd .tup [.int 2]] ++ v), .nd .lst [iw a], .nd .tup (t ++ [.bl false]), .nd .tup [.int 1, .int 0]]
theorem add_tup {ds es : List D} (h : ds.length + es.length ≤ 16777216) : addD (.nd .tup ds) (.nd .tup es) = some (.nd .tup (ds ++ es)) := v_addT (small h)
theorem cat_lst {ds es : List D} (h : ds.length + es.length ≤ 16777216) : catD (.nd .lst ds) (.nd .lst es) = some (ds ++ es) := v_catL (small h)
theorem add1 {a : List Int} {es : List D} (h : a.length + es.length ≤ 16777216) : addD (iw a) (.nd .tup es) = some (.nd .tup (a.map .int ++ es)) := v_addT (by rw [List.length_map]; exact small h)
theorem add2 {a : List Int} {es : List D} (h : es.length + a.length ≤ 16777216) : addD (.nd .tup es) (iw a) = some (.nd .tup (es ++ a.map .int)) := v_addT (by rw [List.length_map]; exact small h)
theorem cat1 {a : List Int} {es : List D} (h : a.length + es.length ≤ 16777216) : catD (il a) (.nd .lst es) = some (a.map .int ++ es) := v_catL (by rw [List.length_map]; exact small h)
theorem w_odd (c : Dk) {a : List Int} (ha : a.length ≤ 100) : ∃ (n : Nat) (c' : Dk), n ≤ a.length ∧ F__law_odd [dk c, .val (iw a)] = .ok (nl (odds a n), dk c') := by
  have key : ∃ o o1, F__law_odd [dk c, .val (iw a)] = .ok (o, o1) ∧ ∃ (n : Nat) (c' : Dk), n ≤ a.length ∧ o = nl (odds a n) ∧ o1 = dk c' := by
    unfold F__law_odd
    refine fn_T ?_
    unfold m__law_odd
    obtain ⟨n, c1, hr, e⟩ := w_draw c (L := (a.length : Int) + 1) (by omega) (by omega)
    refine seq_nx (by simp [-Fl.rt.injEq, -Fl.nx.injEq, -Fl.er.injEq, -Fl.bk.injEq, -Fl.ct.injEq, -Res.ok.injEq, -List.cons.injEq, -Option.some.injEq, -Prod.mk.injEq, -O.val.injEq, -D.int.injEq, -D.nd.injEq, -List.getD_eq_getElem?_getD, -List.map_replicate, -List.map_take, -List.map_drop, -List.map_map, -List.map_append, -List.map_reverse, e] <;> rfl) ?_
    have t1 := cutT_lo (l := a) (n := n)
    have t2 := cutT_hi (l := a) (n := n)
    have l1 : (a.take n).length ≤ 100 := by simp; omega
    have l2 : (a.drop n).length ≤ 100 := by simp; omega
    have b0 : boolD [.int (n : Int)] = some (.bl (n != 0)) := by
      show some (D.bl ((n : Int) != 0)) = _
      cases n <;> rfl
    generalize hu : a.take n = u at t1 l1
    generalize hw : a.drop n = v at t2 l2
    generalize hbz : (n != 0) = bz at b0
    have k1 := add1 (a := a) (es := [.int 0]) (by simp; omega)
    have k2 := cat1 (a := a) (es := [.int 1]) (by simp; omega)
    have k3 := add1 (a := a) (es := [.bl true]) (by simp; omega)
    have k4 := add1 (a := u) (es := [.non]) (by simp; omega)
    have k5 := add2 (a := v) (es := u.map .int ++ [.non]) (by simp; omega)
    have k6 := add_tup (ds := u.map .int ++ [.non] ++ v.map .int) (es := [.int 1]) (by simp; omega)
    have k7 := add1 (a := a) (es := [.int 0, .int 0]) (by simp; omega)
    have k8 := add1 (a := u) (es := [.bl bz]) (by simp; omega)
    have k9 := add2 (a := v) (es := u.map .int ++ [.bl bz]) (by simp; omega)
    have k10 := add_tup (ds := u.map .int ++ [.bl bz] ++ v.map .int) (es := [.int 1]) (by simp; omega)
    have k11 := add1 (a := a) (es := [.str "1"]) (by simp; omega)
    have k12 := add1 (a := u) (es := [.nd .tup [.int 2]]) (by simp; omega)
    have k13 := add2 (a := v) (es := u.map .int ++ [.nd .tup [.int 2]]) (by simp; omega)
    have k14 := add1 (a := a) (es := [.bl false]) (by simp; omega)
    refine seq_nx (by simp [-Fl.rt.injEq, -Fl.nx.injEq, -Fl.er.injEq, -Fl.bk.injEq, -Fl.ct.injEq, -Res.ok.injEq, -List.cons.injEq, -Option.some.injEq, -Prod.mk.injEq, -O.val.injEq, -D.int.injEq, -D.nd.injEq, -List.getD_eq_getElem?_getD, -List.map_replicate, -List.map_take, -List.map_drop, -List.map_map, -List.map_append, -List.map_reverse, -List.append_assoc, mcutT, mpart, k1, k2, k3, t1, t2, k4, k5, k6, k7] <;> rfl) ?_
    have c2 := @cat_lst [.nd .tup (a.map .int ++ [.int 0]), .nd .lst (a.map .int ++ [.int 1]), .nd .tup (a.map .int ++ [.bl true]), .nd .tup (u.map .int ++ [.non] ++ v.map .int ++ [.int 1]), .nd .tup [.int 0], .nd .tup (a.map .int ++ [.int 0, .int 0])]
      [.nd .tup (u.map .int ++ [.bl bz] ++ v.map .int ++ [.int 1]), .nd .tup [.nd .tup [.int 1]], .non, .int 0, .int 1, .bl true, .str "", .str "1", .nd .lst [], .nd .tup [.nd .lst []]] (by simp)
    refine seq_nx (ρ' := [some (dk c1), some (.val (iw a)), some (.val (.int (n : Int))), some (.val (.nd .lst ([.nd .tup (a.map .int ++ [.int 0]), .nd .lst (a.map .int ++ [.int 1]), .nd .tup (a.map .int ++ [.bl true]), .nd .tup (u.map .int ++ [.non] ++ v.map .int ++ [.int 1]), .nd .tup [.int 0], .nd .tup (a.map .int ++ [.int 0, .int 0])] ++
      [.nd .tup (u.map .int ++ [.bl bz] ++ v.map .int ++ [.int 1]), .nd .tup [.nd .tup [.int 1]], .non, .int 0, .int 1, .bl true, .str "", .str "1", .nd .lst [], .nd .tup [.nd .lst []]])))]) ?_ ?_
    · exact (by simp [-Fl.rt.injEq, -Fl.nx.injEq, -Fl.er.injEq, -Fl.bk.injEq, -Fl.ct.injEq, -Res.ok.injEq, -List.cons.injEq, -Option.some.injEq, -Prod.mk.injEq, -O.val.injEq, -D.int.injEq, -D.nd.injEq, -List.getD_eq_getElem?_getD, -List.map_replicate, -List.map_take, -List.map_drop, -List.map_map, -List.map_append, -List.map_reverse, -List.append_assoc, -List.cons_append, -List.nil_append, mcutT, mpart, t1, t2, b0, k8, k9, k10, c2] <;> rfl)
    have c3 := @cat_lst ([.nd .tup (a.map .int ++ [.int 0]), .nd .lst (a.map .int ++ [.int 1]), .nd .tup (a.map .int ++ [.bl true]), .nd .tup (u.map .int ++ [.non] ++ v.map .int ++ [.int 1]), .nd .tup [.int 0], .nd .tup (a.map .int ++ [.int 0, .int 0])] ++
      [.nd .tup (u.map .int ++ [.bl bz] ++ v.map .int ++ [.int 1]), .nd .tup [.nd .tup [.int 1]], .non, .int 0, .int 1, .bl true, .str "", .str "1", .nd .lst [], .nd .tup [.nd .lst []]])
      [.nd .tup (a.map .int ++ [.str "1"]), .nd .tup [iw a, .nd .tup [.int 1]], .nd .tup (u.map .int ++ [.nd .tup [.int 2]] ++ v.map .int), .nd .lst [iw a], .nd .tup (a.map .int ++ [.bl false]), .nd .tup [.int 1, .int 0]] (by simp)
    refine q_rt (o := nl (odds a n)) (ρ' := [some (dk c1), some (.val (iw a)), some (.val (.int (n : Int))), some (.val (.nd .lst ([.nd .tup (a.map .int ++ [.int 0]), .nd .lst (a.map .int ++ [.int 1]), .nd .tup (a.map .int ++ [.bl true]), .nd .tup (u.map .int ++ [.non] ++ v.map .int ++ [.int 1]), .nd .tup [.int 0], .nd .tup (a.map .int ++ [.int 0, .int 0])] ++
      [.nd .tup (u.map .int ++ [.bl bz] ++ v.map .int ++ [.int 1]), .nd .tup [.nd .tup [.int 1]], .non, .int 0, .int 1, .bl true, .str "", .str "1", .nd .lst [], .nd .tup [.nd .lst []]])))]) ?_ ?_
    · unfold odds
      rw [hu, hw, hbz]
      exact (by simp [-Fl.rt.injEq, -Fl.nx.injEq, -Fl.er.injEq, -Fl.bk.injEq, -Fl.ct.injEq, -Res.ok.injEq, -List.cons.injEq, -Option.some.injEq, -Prod.mk.injEq, -O.val.injEq, -D.int.injEq, -D.nd.injEq, -List.getD_eq_getElem?_getD, -List.map_replicate, -List.map_take, -List.map_drop, -List.map_map, -List.map_append, -List.map_reverse, -List.append_assoc, -List.cons_append, -List.nil_append, mcutT, mpart, t1, t2, k11, k12, k13, k14, c3] <;> rfl)
    exact ⟨n, c1, by omega, rfl, rfl⟩
  obtain ⟨_, _, e, n, c', h, rfl, rfl⟩ := key
  exact ⟨n, c', h, e⟩
end L52
set_option Elab.async false
set_option maxRecDepth 100000
set_option linter.all false
namespace L52
open PySem L2 Y
/-! ### the odd values -/
def El (d : D) : Prop := plainH d = true ∧ Shw 2 2000 d
structure Od (d : D) : Prop where
  p : polyB d = false
  z : Pz d
  s : Shw 3 200000 d
theorem el_T {ds : List D} (h : ∀ e ∈ ds, El e) (hl : ds.length ≤ 60) (hp : polyB (.nd .tup ds) = false) : Od (.nd .tup ds) :=
  ⟨hp, ⟨rfl, fun k es e => by cases e; exact ⟨fun e he => (h e he).1, by omega⟩⟩, .tup (fun e he => (h e he).2) (by omega)⟩
theorem el_L {ds : List D} (h : ∀ e ∈ ds, El e) (hl : ds.length ≤ 60) : Od (.nd .lst ds) :=
  ⟨rfl, ⟨rfl, fun k es e => by cases e; exact ⟨fun e he => (h e he).1, by omega⟩⟩, .lst (fun e he => (h e he).2) (by omega)⟩
theorem el_int {i : Int} (h : i.natAbs < 10 ^ 30) : El (.int i) := ⟨rfl, (Shw.int h (by decide) (by decide)).mono (Nat.le_refl _) (by decide)⟩
theorem el_ints {a : List Int} (h : ∀ x ∈ a, x.natAbs < 10 ^ 30) : ∀ e ∈ a.map D.int, El e := fun e he => by
  obtain ⟨i, hi, rfl⟩ := List.mem_map.mp he
  exact el_int (h i hi)
theorem el_bl (b : Bool) : El (.bl b) := ⟨rfl, .bl b (by decide)⟩
theorem el_non : El .non := ⟨rfl, .non (by decide)⟩
theorem el_one : El (.str "1") := ⟨rfl, .str (by decide +kernel)⟩
theorem el_tup {ds : List D} (h : ∀ e ∈ ds, Shw 1 31 e) (hl : ds.length ≤ 50) : El (.nd .tup ds) := ⟨rfl, .tup h (by omega)⟩
theorem el_lst {ds : List D} (h : ∀ e ∈ ds, Shw 1 31 e) (hl : ds.length ≤ 50) : El (.nd .lst ds) := ⟨rfl, .lst h (by omega)⟩
theorem el_iw {a : List Int} (h : ∀ x ∈ a, x.natAbs < 10 ^ 30) (hl : a.length ≤ 50) : El (iw a) := el_tup (fun e he => by
  obtain ⟨i, hi, rfl⟩ := List.mem_map.mp he
  exact .int (h i hi) (by decide) (by decide)) (by simpa using hl)
theorem od_of {d : D} (h : El d) (hp : polyB d = false) (hk : ∀ k ds, d ≠ .nd k ds) : Od d := ⟨hp, ⟨h.1, fun k ds e => absurd e (hk k ds)⟩, h.2.mono (by decide) (by decide)⟩
theorem odds_ok {a : List Int} {n : Nat} (hl : a.length ≤ 45) (hb : ∀ x ∈ a, x.natAbs < 10 ^ 30) : ∀ d ∈ odds a n, Od d := by
  have T := el_ints hb
  have U := el_ints (a := a.take n) fun x hx => hb x (List.mem_of_mem_take hx)
  have V := el_ints (a := a.drop n) fun x hx => hb x (List.mem_of_mem_drop hx)
  have u1 : (a.take n).length + (a.drop n).length = a.length := by simp; omega
  have i0 : El (.int 0) := el_int (by decide)
  have i1 : El (.int 1) := el_int (by decide)
  have s1 : ∀ {x : D}, El x → ∀ e ∈ [x], El e := fun h e he => by rw [List.mem_singleton] at he; subst he; exact h
  have t1 : El (.nd .tup [.int 1]) := el_tup (by intro e he; rw [List.mem_singleton] at he; subst he; exact .int (by decide) (by decide) (by decide)) (by simp)
  have t2 : El (.nd .tup [.int 2]) := el_tup (by intro e he; rw [List.mem_singleton] at he; subst he; exact .int (by decide) (by decide) (by decide)) (by simp)
  have l0 : El (.nd .lst []) := el_lst (by simp) (by simp)
  intro d hd
  unfold odds at hd
  dsimp only at hd
  simp only [List.mem_cons, List.not_mem_nil, or_false] at hd
  generalize a.take n = u at U u1 hd
  generalize a.drop n = v at V u1 hd
  rcases hd with rfl | rfl | rfl | rfl | rfl | rfl | rfl | rfl | rfl | rfl | rfl | rfl | rfl | rfl | rfl | rfl | rfl | rfl | rfl | rfl | rfl | rfl
  · exact el_T (List.forall_mem_append.mpr ⟨T, s1 i0⟩) (by simp; omega) (by simp [polyB, lastOk])
  · exact el_L (List.forall_mem_append.mpr ⟨T, s1 i1⟩) (by simp; omega)
  · exact el_T (List.forall_mem_append.mpr ⟨T, s1 (el_bl _)⟩) (by simp; omega) (by simp [polyB, isInt])
  · exact el_T (List.forall_mem_append.mpr ⟨List.forall_mem_append.mpr ⟨List.forall_mem_append.mpr ⟨U, s1 el_non⟩, V⟩, s1 i1⟩) (by simp; omega) (by simp [polyB, isInt])
  · exact el_T (s1 i0) (by simp) (by simp [polyB, lastOk])
  · exact el_T (List.forall_mem_append.mpr ⟨T, by intro e he; simp at he; rcases he with rfl | rfl <;> exact i0⟩) (by simp; omega) (by simp [polyB, lastOk, List.getLast?_append])
  · exact el_T (List.forall_mem_append.mpr ⟨List.forall_mem_append.mpr ⟨List.forall_mem_append.mpr ⟨U, s1 (el_bl _)⟩, V⟩, s1 i1⟩) (by simp; omega) (by simp [polyB, isInt])
  · exact el_T (s1 t1) (by simp) (by simp [polyB, isInt])
  · exact od_of el_non rfl (fun _ _ e => by cases e)
  · exact od_of i0 rfl (fun _ _ e => by cases e)
  · exact od_of i1 rfl (fun _ _ e => by cases e)
  · exact od_of (el_bl _) rfl (fun _ _ e => by cases e)
  · exact od_of ⟨rfl, .str (by decide +kernel)⟩ rfl (fun _ _ e => by cases e)
  · exact od_of el_one rfl (fun _ _ e => by cases e)
  · exact el_L (by simp) (by simp)
  · exact el_T (s1 l0) (by simp) (by simp [polyB, isInt])
  · exact el_T (List.forall_mem_append.mpr ⟨T, s1 el_one⟩) (by simp; omega) (by simp [polyB, isInt])
  · exact el_T (by intro e he; simp at he; rcases he with rfl | rfl; exact el_iw hb (by omega); exact t1) (by simp) (by simp [polyB, isInt, -iw_fold, iw])
  · exact el_T (List.forall_mem_append.mpr ⟨List.forall_mem_append.mpr ⟨U, s1 t2⟩, V⟩) (by simp; omega) (by simp [polyB, isInt])
  · exact el_L (s1 (el_iw hb (by omega))) (by simp)
  · exact el_T (List.forall_mem_append.mpr ⟨T, s1 (el_bl _)⟩) (by simp; omega) (by simp [polyB, isInt])
  · exact el_T (by intro e he; simp at he; rcases he with rfl | rfl; exact i1; exact i0) (by simp) (by simp [polyB, lastOk])
theorem odds_len {a : List Int} {n : Nat} : (odds a n).length = 22 := rfl
theorem ix_odds {a : List Int} {n r : Nat} (hr : r < 22) : ∃ d ∈ odds a n, ixD (.nd .lst (odds a n)) (.int (r : Int)) = some d := by
  have h : r < (odds a n).length := hr
  exact ⟨(odds a n)[r], List.getElem_mem h, v_ixL (by simp [h])⟩
@[simp] theorem v_isNotB {a b : Bool} : isNotD (.bl a) (.bl b) = some (.bl (!decide (a = b))) := by
  cases a <;> cases b <;> rfl
theorem w_judged (c : Dk) {a : List Int} (ha : Pd a) : ∃ c', F__law_judged [dk c, .val (iw a)] = .ok (.val (.bl true), dk c') := by
  have key : ∃ o o1, F__law_judged [dk c, .val (iw a)] = .ok (o, o1) ∧ o = .val (.bl true) ∧ ∃ c', o1 = dk c' := by
    have hal := ha.l
    unfold F__law_judged
    refine fn_T ?_
    unfold m__law_judged
    have hc : cutT none (some (30 : Int)) (iw a) = some (iw (a.take 30)) := cutT_lo
    have ht := w_ltrim (l := a.take 30) (d := iw (a.take 30)) rfl (by simp; omega)
    have hs : Pd (trim (a.take 30)) := pd_trim (by simp; omega) fun x hx => ha.b x (List.mem_of_mem_take hx)
    have hsl : (trim (a.take 30)).length ≤ 30 := Nat.le_trans trim_len (by simp; omega)
    generalize trim (a.take 30) = s at ht hs hsl
    refine seq_nx (by simp [-Fl.rt.injEq, -Fl.nx.injEq, -Fl.er.injEq, -Fl.bk.injEq, -Fl.ct.injEq, -Res.ok.injEq, -List.cons.injEq, -Option.some.injEq, -Prod.mk.injEq, -O.val.injEq, -D.int.injEq, -D.nd.injEq, -List.getD_eq_getElem?_getD, -List.map_replicate, -List.map_take, -List.map_drop, -List.map_map, -List.map_append, -List.map_reverse, mcutT, mpart, hc, ht] <;> rfl) ?_
    have f1 : D.nd .tup [D.int 1] = iw [1] := rfl
    have f2 : D.nd .tup [D.int 0, .int 0] = iw [0, 0] := rfl
    have f3 : D.nd .tup [D.int (-1)] = iw [-1] := rfl
    have k1 := add_iw (a := s) (b := [1]) (by simp; omega)
    have k2 := add_iw (a := [0, 0]) (b := s) (by simp; omega)
    have k3 := add_iw (a := [0, 0] ++ s) (b := [-1]) (by simp; omega)
    have xl : ([0, 0] ++ s).length ≤ 40 := by simp; omega
    generalize [0, 0] ++ s = x at k2 k3 xl
    refine seq_for (ds := [iw a, iw [], iw (s ++ [1]), iw (x ++ [-1])]) (ρ1 := [some (dk c), some (.val (iw a)), some (.val (iw s)), none, none, none, none, none]) (fun k ρ => ∃ x3, ρ = [some (dk c), some (.val (iw a)), some (.val (iw s)), x3, none, none, none, none])
      (by simp [-Fl.rt.injEq, -Fl.nx.injEq, -Fl.er.injEq, -Fl.bk.injEq, -Fl.ct.injEq, -Res.ok.injEq, -List.cons.injEq, -Option.some.injEq, -Prod.mk.injEq, -O.val.injEq, -D.int.injEq, -D.nd.injEq, -List.getD_eq_getElem?_getD, -List.map_replicate, -List.map_take, -List.map_drop, -List.map_map, -List.map_append, -List.map_reverse, -List.append_assoc, -List.cons_append, -List.nil_append, f1, f2, f3, k1, k2, k3] <;> rfl) ⟨_, rfl⟩ ?_ ?_
    · rintro k d ρ hd ⟨x3, rfl⟩
      refine ⟨_, (by simp [-Fl.rt.injEq, -Fl.nx.injEq, -Fl.er.injEq, -Fl.bk.injEq, -Fl.ct.injEq, -Res.ok.injEq, -List.cons.injEq, -Option.some.injEq, -Prod.mk.injEq, -O.val.injEq, -D.int.injEq, -D.nd.injEq, -List.getD_eq_getElem?_getD, -List.map_replicate, -List.map_take, -List.map_drop, -List.map_map, -List.map_append, -List.map_reverse] <;> rfl), ?_⟩
      have hz : Pz d ∧ polyB d = true := by
        have hm := List.mem_of_getElem? hd
        simp only [List.mem_cons, List.not_mem_nil, or_false] at hm
        rcases hm with rfl | rfl | rfl | rfl
        · exact ⟨pz_iw (by omega), poly_iw.mpr ha.t⟩
        · exact ⟨pz_iw (by simp), poly_iw.mpr (by simp)⟩
        · exact ⟨pz_iw (by simp; omega), poly_iw.mpr (by simp)⟩
        · exact ⟨pz_iw (by simp; omega), poly_iw.mpr (by simp [List.getLast?_append])⟩
      refine lp_nx (by simp [-Fl.rt.injEq, -Fl.nx.injEq, -Fl.er.injEq, -Fl.bk.injEq, -Fl.ct.injEq, -Res.ok.injEq, -List.cons.injEq, -Option.some.injEq, -Prod.mk.injEq, -O.val.injEq, -D.int.injEq, -D.nd.injEq, -List.getD_eq_getElem?_getD, -List.map_replicate, -List.map_take, -List.map_drop, -List.map_map, -List.map_append, -List.map_reverse, w_is_poly hz.1, hz.2] <;> rfl) ?_
      exact ⟨_, rfl⟩
    rintro _ ⟨x3, rfl⟩
    obtain ⟨n, c1, hn, e⟩ := w_odd c (a := s) (by omega)
    refine seq_nx (by simp [-Fl.rt.injEq, -Fl.nx.injEq, -Fl.er.injEq, -Fl.bk.injEq, -Fl.ct.injEq, -Res.ok.injEq, -List.cons.injEq, -Option.some.injEq, -Prod.mk.injEq, -O.val.injEq, -D.int.injEq, -D.nd.injEq, -List.getD_eq_getElem?_getD, -List.map_replicate, -List.map_take, -List.map_drop, -List.map_map, -List.map_append, -List.map_reverse, e] <;> rfl) ?_
    have ok := odds_ok (a := s) (n := n) (by omega) hs.b
    have hg : irng1 (mret (.int 8)) [some (dk c1), some (.val (iw a)), some (.val (iw s)), x3, some (.val (.nd .lst (odds s n))), none, none, none] = .ok ((List.range 8).map nD, [some (dk c1), some (.val (iw a)), some (.val (iw s)), x3, some (.val (.nd .lst (odds s n))), none, none, none]) := v_rangeN (n := 8) rfl (by decide)
    refine seq_for (fun k ρ => ∃ c x3 x5 x6 x7, ρ = [some (dk c), some (.val (iw a)), some (.val (iw s)), x3, some (.val (.nd .lst (odds s n))), x5, x6, x7]) hg ⟨c1, x3, _, _, _, rfl⟩ ?_ ?_
    · rintro k d ρ hd ⟨c, x3, x5, x6, x7, rfl⟩
      obtain ⟨hk, rfl⟩ := range_get hd
      refine ⟨_, (by simp [-Fl.rt.injEq, -Fl.nx.injEq, -Fl.er.injEq, -Fl.bk.injEq, -Fl.ct.injEq, -Res.ok.injEq, -List.cons.injEq, -Option.some.injEq, -Prod.mk.injEq, -O.val.injEq, -D.int.injEq, -D.nd.injEq, -List.getD_eq_getElem?_getD, -List.map_replicate, -List.map_take, -List.map_drop, -List.map_map, -List.map_append, -List.map_reverse] <;> rfl), ?_⟩
      obtain ⟨r, c1, hr, e⟩ := w_draw c (L := 22) (by omega) (by omega)
      have hlen : lenD [.nd .lst (odds s n)] = some (.int 22) := rfl
      obtain ⟨d, hd, e2⟩ := ix_odds (a := s) (n := n) (r := r) (by omega)
      have od := ok d hd
      obtain ⟨t, e3, ot⟩ := od.s.repr
      have e4 := w_is_poly od.z
      rw [od.p] at e4
      have e5 := ne_nb (k := 0) (m := 0) (.str ot) (.str ot)
      refine seq_nx (by simp [-Fl.rt.injEq, -Fl.nx.injEq, -Fl.er.injEq, -Fl.bk.injEq, -Fl.ct.injEq, -Res.ok.injEq, -List.cons.injEq, -Option.some.injEq, -Prod.mk.injEq, -O.val.injEq, -D.int.injEq, -D.nd.injEq, -List.getD_eq_getElem?_getD, -List.map_replicate, -List.map_take, -List.map_drop, -List.map_map, -List.map_append, -List.map_reverse, hlen, e, e2] <;> rfl) ?_
      refine seq_nx (by simp [-Fl.rt.injEq, -Fl.nx.injEq, -Fl.er.injEq, -Fl.bk.injEq, -Fl.ct.injEq, -Res.ok.injEq, -List.cons.injEq, -Option.some.injEq, -Prod.mk.injEq, -O.val.injEq, -D.int.injEq, -D.nd.injEq, -List.getD_eq_getElem?_getD, -List.map_replicate, -List.map_take, -List.map_drop, -List.map_map, -List.map_append, -List.map_reverse, e3] <;> rfl) ?_
      by_cases h5 : (k : Int) < 5
      · refine seq_nx (by simp [-Fl.rt.injEq, -Fl.nx.injEq, -Fl.er.injEq, -Fl.bk.injEq, -Fl.ct.injEq, -Res.ok.injEq, -List.cons.injEq, -Option.some.injEq, -Prod.mk.injEq, -O.val.injEq, -D.int.injEq, -D.nd.injEq, -List.getD_eq_getElem?_getD, -List.map_replicate, -List.map_take, -List.map_drop, -List.map_map, -List.map_append, -List.map_reverse, ltDv, h5, e4] <;> rfl) ?_
        refine lp_nx (by simp [-Fl.rt.injEq, -Fl.nx.injEq, -Fl.er.injEq, -Fl.bk.injEq, -Fl.ct.injEq, -Res.ok.injEq, -List.cons.injEq, -Option.some.injEq, -Prod.mk.injEq, -O.val.injEq, -D.int.injEq, -D.nd.injEq, -List.getD_eq_getElem?_getD, -List.map_replicate, -List.map_take, -List.map_drop, -List.map_map, -List.map_append, -List.map_reverse, e3, e5] <;> rfl) ?_
        exact ⟨_, _, _, _, _, rfl⟩
      · refine seq_nx (by simp [-Fl.rt.injEq, -Fl.nx.injEq, -Fl.er.injEq, -Fl.bk.injEq, -Fl.ct.injEq, -Res.ok.injEq, -List.cons.injEq, -Option.some.injEq, -Prod.mk.injEq, -O.val.injEq, -D.int.injEq, -D.nd.injEq, -List.getD_eq_getElem?_getD, -List.map_replicate, -List.map_take, -List.map_drop, -List.map_map, -List.map_append, -List.map_reverse, ltDv, h5, e4] <;> rfl) ?_
        refine lp_nx (by simp [-Fl.rt.injEq, -Fl.nx.injEq, -Fl.er.injEq, -Fl.bk.injEq, -Fl.ct.injEq, -Res.ok.injEq, -List.cons.injEq, -Option.some.injEq, -Prod.mk.injEq, -O.val.injEq, -D.int.injEq, -D.nd.injEq, -List.getD_eq_getElem?_getD, -List.map_replicate, -List.map_take, -List.map_drop, -List.map_map, -List.map_append, -List.map_reverse, e3, e5] <;> rfl) ?_
        exact ⟨_, _, _, _, _, rfl⟩
    · rintro _ ⟨c, x3, x5, x6, x7, rfl⟩
      refine q_rt (by simp [-Fl.rt.injEq, -Fl.nx.injEq, -Fl.er.injEq, -Fl.bk.injEq, -Fl.ct.injEq, -Res.ok.injEq, -List.cons.injEq, -Option.some.injEq, -Prod.mk.injEq, -O.val.injEq, -D.int.injEq, -D.nd.injEq, -List.getD_eq_getElem?_getD, -List.map_replicate, -List.map_take, -List.map_drop, -List.map_map, -List.map_append, -List.map_reverse] <;> rfl) ?_
      exact ⟨rfl, c, rfl⟩
  obtain ⟨_, _, e, rfl, c', rfl⟩ := key
  exact ⟨c', e⟩
end L52
set_option Elab.async false
set_option maxRecDepth 100000
set_option linter.all false
namespace L52
open PySem L2 Y
theorem ok_told : PyData.strOk "told" = true := by decide +kernel
theorem ok_poly : PyData.strOk "polynomial" = true := by decide +kernel
theorem ok_num : PyData.strOk "number" = true := by decide +kernel
theorem ne_told : neDv (.str "told") (.str "told") = some (.bl false) := by
  have := ne_nb (k := 0) (m := 0) (.str ok_told) (.str ok_told)
  simpa using this
theorem ne_pair {a t : Str} (ha : PyData.strOk a = true) (ht : PyData.strOk t = true) : neDv (.nd .tup [.str a, .str t]) (.nd .tup [.str a, .str t]) = some (.bl false) := by
  have h : Nb 1 (.nd .tup [.str a, .str t]) := .tup (by intro d hd; simp at hd; rcases hd with rfl | rfl; exact .str ha; exact .str ht)
  have := ne_nb h h
  simpa using this
theorem same8 {a : List Int} (ha : a.length ≤ 1000) : F__law_same 8 [.val (iw a), .val (iw a)] = .ok (.val (.bl true), .val .non) := w_same (n := 6) ha
theorem same8i {i : Int} : F__law_same 8 [.val (.int i), .val (.int i)] = .ok (.val (.bl true), .val .non) := w_same_int (n := 7)
theorem sm_len {s : Int} {a b : List Int} : (trim (sm s a b)).length ≤ max a.length b.length := Nat.le_trans trim_len (by simp [sm])
theorem w_answered (c : Dk) {a b : List Int} (ha : Pd a) (hb : Pd b) : ∃ c', F__law_answered [dk c, .val (iw a), .val (iw b)] = .ok (.val (.bl true), dk c') := by
  have key : ∃ o o1, F__law_answered [dk c, .val (iw a), .val (iw b)] = .ok (o, o1) ∧ o = .val (.bl true) ∧ ∃ c', o1 = dk c' := by
    have hal := ha.l
    have hbl := hb.l
    unfold F__law_answered
    refine fn_T ?_
    unfold m__law_answered
    have l1 := w_lplus (a := a) (b := b) (s := 1) (by omega) (by omega) (by decide)
    have l2 := w_lplus (a := a) (b := b) (s := -1) (by omega) (by omega) (by decide)
    have l3 := w_ltimes ha.pol.s hb.pol.s
    have p1 := w_plus ha.pol hb.pol
    have p1' := w_plus hb.pol ha.pol
    rw [sm_comm] at p1'
    have p2 := w_less ha.pol hb.pol
    have p2' := w_less hb.pol ha.pol
    have p3 := w_times ha.pol hb.pol
    have p3' := w_times hb.pol ha.pol
    rw [prod_comm] at p3'
    have n1 := @sm_len 1 a b
    have n2 := @sm_len (-1) a b
    have n2' := @sm_len (-1) b a
    have n3 := @prod_len a b
    have l4 := w_lplus (a := []) (b := trim (sm (-1) a b)) (s := -1) (by simp) (by omega) (by decide)
    rw [less_back] at l4
    refine seq_nx (by simp [-Fl.rt.injEq, -Fl.nx.injEq, -Fl.er.injEq, -Fl.bk.injEq, -Fl.ct.injEq, -Res.ok.injEq, -List.cons.injEq, -Option.some.injEq, -Prod.mk.injEq, -O.val.injEq, -D.int.injEq, -D.nd.injEq, -List.getD_eq_getElem?_getD, -List.map_replicate, -List.map_take, -List.map_drop, -List.map_map, -List.map_append, -List.map_reverse, l1, l2, l3] <;> rfl) ?_
    generalize trim (sm 1 a b) = X at *
    generalize trim (sm (-1) a b) = Y at *
    generalize trim (sm (-1) b a) = Y' at *
    generalize prod a b = Z at *
    have hg : irng1 (mret (.int 3)) [some (dk c), some (.val (iw a)), some (.val (iw b)), some (.val (.nd .lst [iw X, iw Y, iw Z])), none, none, none, none] = .ok ((List.range 3).map nD, [some (dk c), some (.val (iw a)), some (.val (iw b)), some (.val (.nd .lst [iw X, iw Y, iw Z])), none, none, none, none]) := v_rangeN (n := 3) rfl (by decide)
    refine seq_for (fun k ρ => ∃ c x4 x5 x6, ρ = [some (dk c), some (.val (iw a)), some (.val (iw b)), some (.val (.nd .lst [iw X, iw Y, iw Z])), x4, x5, x6, none]) hg ⟨c, _, _, _, rfl⟩ ?_ ?_
    · rintro k d ρ hd ⟨c, x4, x5, x6, rfl⟩
      obtain ⟨hk, rfl⟩ := range_get hd
      refine ⟨_, (by simp [-Fl.rt.injEq, -Fl.nx.injEq, -Fl.er.injEq, -Fl.bk.injEq, -Fl.ct.injEq, -Res.ok.injEq, -List.cons.injEq, -Option.some.injEq, -Prod.mk.injEq, -O.val.injEq, -D.int.injEq, -D.nd.injEq, -List.getD_eq_getElem?_getD, -List.map_replicate, -List.map_take, -List.map_drop, -List.map_map, -List.map_append, -List.map_reverse] <;> rfl), ?_⟩
      obtain ⟨r, c1, hr, e⟩ := w_draw c (L := 2) (by omega) (by omega)
      rcases (show k = 0 ∨ k = 1 ∨ k = 2 by omega) with rfl | rfl | rfl
      · refine seq_nx (by simp [-Fl.rt.injEq, -Fl.nx.injEq, -Fl.er.injEq, -Fl.bk.injEq, -Fl.ct.injEq, -Res.ok.injEq, -List.cons.injEq, -Option.some.injEq, -Prod.mk.injEq, -O.val.injEq, -D.int.injEq, -D.nd.injEq, -List.getD_eq_getElem?_getD, -List.map_replicate, -List.map_take, -List.map_drop, -List.map_map, -List.map_append, -List.map_reverse, e, told0 p1] <;> rfl) ?_
        refine seq_nx (by simp [-Fl.rt.injEq, -Fl.nx.injEq, -Fl.er.injEq, -Fl.bk.injEq, -Fl.ct.injEq, -Res.ok.injEq, -List.cons.injEq, -Option.some.injEq, -Prod.mk.injEq, -O.val.injEq, -D.int.injEq, -D.nd.injEq, -List.getD_eq_getElem?_getD, -List.map_replicate, -List.map_take, -List.map_drop, -List.map_map, -List.map_append, -List.map_reverse, ne_told, same8 (show X.length ≤ 1000 by omega)] <;> rfl) ?_
        refine seq_nx (by simp [-Fl.rt.injEq, -Fl.nx.injEq, -Fl.er.injEq, -Fl.bk.injEq, -Fl.ct.injEq, -Res.ok.injEq, -List.cons.injEq, -Option.some.injEq, -Prod.mk.injEq, -O.val.injEq, -D.int.injEq, -D.nd.injEq, -List.getD_eq_getElem?_getD, -List.map_replicate, -List.map_take, -List.map_drop, -List.map_map, -List.map_append, -List.map_reverse, told0 p1'] <;> rfl) ?_
        refine seq_nx (by simp [-Fl.rt.injEq, -Fl.nx.injEq, -Fl.er.injEq, -Fl.bk.injEq, -Fl.ct.injEq, -Res.ok.injEq, -List.cons.injEq, -Option.some.injEq, -Prod.mk.injEq, -O.val.injEq, -D.int.injEq, -D.nd.injEq, -List.getD_eq_getElem?_getD, -List.map_replicate, -List.map_take, -List.map_drop, -List.map_map, -List.map_append, -List.map_reverse] <;> rfl) ?_
        refine lp_nx (by simp [-Fl.rt.injEq, -Fl.nx.injEq, -Fl.er.injEq, -Fl.bk.injEq, -Fl.ct.injEq, -Res.ok.injEq, -List.cons.injEq, -Option.some.injEq, -Prod.mk.injEq, -O.val.injEq, -D.int.injEq, -D.nd.injEq, -List.getD_eq_getElem?_getD, -List.map_replicate, -List.map_take, -List.map_drop, -List.map_map, -List.map_append, -List.map_reverse, ne_told, same8 (show X.length ≤ 1000 by omega)] <;> rfl) ?_
        exact ⟨_, _, _, _, rfl⟩
      · refine seq_nx (by simp [-Fl.rt.injEq, -Fl.nx.injEq, -Fl.er.injEq, -Fl.bk.injEq, -Fl.ct.injEq, -Res.ok.injEq, -List.cons.injEq, -Option.some.injEq, -Prod.mk.injEq, -O.val.injEq, -D.int.injEq, -D.nd.injEq, -List.getD_eq_getElem?_getD, -List.map_replicate, -List.map_take, -List.map_drop, -List.map_map, -List.map_append, -List.map_reverse, e, told1 p2] <;> rfl) ?_
        refine seq_nx (by simp [-Fl.rt.injEq, -Fl.nx.injEq, -Fl.er.injEq, -Fl.bk.injEq, -Fl.ct.injEq, -Res.ok.injEq, -List.cons.injEq, -Option.some.injEq, -Prod.mk.injEq, -O.val.injEq, -D.int.injEq, -D.nd.injEq, -List.getD_eq_getElem?_getD, -List.map_replicate, -List.map_take, -List.map_drop, -List.map_map, -List.map_append, -List.map_reverse, ne_told, same8 (show Y.length ≤ 1000 by omega)] <;> rfl) ?_
        refine seq_nx (by simp [-Fl.rt.injEq, -Fl.nx.injEq, -Fl.er.injEq, -Fl.bk.injEq, -Fl.ct.injEq, -Res.ok.injEq, -List.cons.injEq, -Option.some.injEq, -Prod.mk.injEq, -O.val.injEq, -D.int.injEq, -D.nd.injEq, -List.getD_eq_getElem?_getD, -List.map_replicate, -List.map_take, -List.map_drop, -List.map_map, -List.map_append, -List.map_reverse, told1 p2'] <;> rfl) ?_
        refine seq_nx (by simp [-Fl.rt.injEq, -Fl.nx.injEq, -Fl.er.injEq, -Fl.bk.injEq, -Fl.ct.injEq, -Res.ok.injEq, -List.cons.injEq, -Option.some.injEq, -Prod.mk.injEq, -O.val.injEq, -D.int.injEq, -D.nd.injEq, -List.getD_eq_getElem?_getD, -List.map_replicate, -List.map_take, -List.map_drop, -List.map_map, -List.map_append, -List.map_reverse, l4] <;> rfl) ?_
        refine lp_nx (by simp [-Fl.rt.injEq, -Fl.nx.injEq, -Fl.er.injEq, -Fl.bk.injEq, -Fl.ct.injEq, -Res.ok.injEq, -List.cons.injEq, -Option.some.injEq, -Prod.mk.injEq, -O.val.injEq, -D.int.injEq, -D.nd.injEq, -List.getD_eq_getElem?_getD, -List.map_replicate, -List.map_take, -List.map_drop, -List.map_map, -List.map_append, -List.map_reverse, ne_told, same8 (show Y'.length ≤ 1000 by omega)] <;> rfl) ?_
        exact ⟨_, _, _, _, rfl⟩
      · refine seq_nx (by simp [-Fl.rt.injEq, -Fl.nx.injEq, -Fl.er.injEq, -Fl.bk.injEq, -Fl.ct.injEq, -Res.ok.injEq, -List.cons.injEq, -Option.some.injEq, -Prod.mk.injEq, -O.val.injEq, -D.int.injEq, -D.nd.injEq, -List.getD_eq_getElem?_getD, -List.map_replicate, -List.map_take, -List.map_drop, -List.map_map, -List.map_append, -List.map_reverse, e, told2 p3] <;> rfl) ?_
        refine seq_nx (by simp [-Fl.rt.injEq, -Fl.nx.injEq, -Fl.er.injEq, -Fl.bk.injEq, -Fl.ct.injEq, -Res.ok.injEq, -List.cons.injEq, -Option.some.injEq, -Prod.mk.injEq, -O.val.injEq, -D.int.injEq, -D.nd.injEq, -List.getD_eq_getElem?_getD, -List.map_replicate, -List.map_take, -List.map_drop, -List.map_map, -List.map_append, -List.map_reverse, ne_told, same8 (show Z.length ≤ 1000 by omega)] <;> rfl) ?_
        refine seq_nx (by simp [-Fl.rt.injEq, -Fl.nx.injEq, -Fl.er.injEq, -Fl.bk.injEq, -Fl.ct.injEq, -Res.ok.injEq, -List.cons.injEq, -Option.some.injEq, -Prod.mk.injEq, -O.val.injEq, -D.int.injEq, -D.nd.injEq, -List.getD_eq_getElem?_getD, -List.map_replicate, -List.map_take, -List.map_drop, -List.map_map, -List.map_append, -List.map_reverse, told2 p3'] <;> rfl) ?_
        refine seq_nx (by simp [-Fl.rt.injEq, -Fl.nx.injEq, -Fl.er.injEq, -Fl.bk.injEq, -Fl.ct.injEq, -Res.ok.injEq, -List.cons.injEq, -Option.some.injEq, -Prod.mk.injEq, -O.val.injEq, -D.int.injEq, -D.nd.injEq, -List.getD_eq_getElem?_getD, -List.map_replicate, -List.map_take, -List.map_drop, -List.map_map, -List.map_append, -List.map_reverse] <;> rfl) ?_
        refine lp_nx (by simp [-Fl.rt.injEq, -Fl.nx.injEq, -Fl.er.injEq, -Fl.bk.injEq, -Fl.ct.injEq, -Res.ok.injEq, -List.cons.injEq, -Option.some.injEq, -Prod.mk.injEq, -O.val.injEq, -D.int.injEq, -D.nd.injEq, -List.getD_eq_getElem?_getD, -List.map_replicate, -List.map_take, -List.map_drop, -List.map_map, -List.map_append, -List.map_reverse, ne_told, same8 (show Z.length ≤ 1000 by omega)] <;> rfl) ?_
        exact ⟨_, _, _, _, rfl⟩
    rintro _ ⟨c, x4, x5, x6, rfl⟩
    obtain ⟨r, c1, hr, e1⟩ := w_draw c (L := 4) (by omega) (by omega)
    obtain ⟨v1, c2, b1, e2⟩ := w_figures c1 (m := 3) (by decide) (by decide)
    obtain ⟨v2, c3, b2, e3⟩ := w_figures c2 (m := 30) (by decide) (by decide)
    have e2' : F__law_figures [dk c1, .val (.int 3)] = .ok (.val (.int v1), dk c2) := e2
    have e3' : F__law_figures [dk c2, .val (.int 30)] = .ok (.val (.int v2), dk c3) := e3
    obtain ⟨v0, b0, e4⟩ : ∃ v0 : Int, v0.natAbs < 2 ^ 120 ∧ ixD (.nd .lst [.int 0, .int 1, .int (-1), .int 10]) (.int (r : Int)) = some (.int v0) := by
      rcases (show r = 0 ∨ r = 1 ∨ r = 2 ∨ r = 3 by omega) with rfl | rfl | rfl | rfl
      · exact ⟨0, by decide, rfl⟩
      · exact ⟨1, by decide, rfl⟩
      · exact ⟨-1, by decide, rfl⟩
      · exact ⟨10, by decide, rfl⟩
    refine seq_for (ds := [v0, v1, v2].map .int) (ρ1 := [some (dk c3), some (.val (iw a)), some (.val (iw b)), some (.val (.nd .lst [iw X, iw Y, iw Z])), x4, x5, x6, none]) (fun k ρ => ∃ c x5 x7, ρ = [some (dk c), some (.val (iw a)), some (.val (iw b)), some (.val (.nd .lst [iw X, iw Y, iw Z])), x4, x5, x6, x7])
      (by simp [-Fl.rt.injEq, -Fl.nx.injEq, -Fl.er.injEq, -Fl.bk.injEq, -Fl.ct.injEq, -Res.ok.injEq, -List.cons.injEq, -Option.some.injEq, -Prod.mk.injEq, -O.val.injEq, -D.int.injEq, -D.nd.injEq, -List.getD_eq_getElem?_getD, -List.map_replicate, -List.map_take, -List.map_drop, -List.map_map, -List.map_append, -List.map_reverse, e1, e4, e2', e3'] <;> rfl) ⟨_, _, _, rfl⟩ ?_ ?_
    · rintro k d ρ hd ⟨c, x5, x7, rfl⟩
      obtain ⟨v, hv, rfl⟩ := ints_get hd
      have hb : v.natAbs < 2 ^ 120 := by
        have hm := List.mem_of_getElem? hv
        simp only [List.mem_cons, List.not_mem_nil, or_false] at hm
        rcases hm with rfl | rfl | rfl
        · exact b0
        · exact Nat.lt_trans b1 (by decide)
        · exact Nat.lt_trans b2 (by decide +kernel)
      refine ⟨_, (by simp [-Fl.rt.injEq, -Fl.nx.injEq, -Fl.er.injEq, -Fl.bk.injEq, -Fl.ct.injEq, -Res.ok.injEq, -List.cons.injEq, -Option.some.injEq, -Prod.mk.injEq, -O.val.injEq, -D.int.injEq, -D.nd.injEq, -List.getD_eq_getElem?_getD, -List.map_replicate, -List.map_take, -List.map_drop, -List.map_map, -List.map_append, -List.map_reverse] <;> rfl), ?_⟩
      obtain ⟨r, c1, hr, e⟩ := w_draw c (L := 2) (by omega) (by omega)
      refine seq_nx (by simp [-Fl.rt.injEq, -Fl.nx.injEq, -Fl.er.injEq, -Fl.bk.injEq, -Fl.ct.injEq, -Res.ok.injEq, -List.cons.injEq, -Option.some.injEq, -Prod.mk.injEq, -O.val.injEq, -D.int.injEq, -D.nd.injEq, -List.getD_eq_getElem?_getD, -List.map_replicate, -List.map_take, -List.map_drop, -List.map_map, -List.map_append, -List.map_reverse, e, told3 (w_value_at ha.pol hb)] <;> rfl) ?_
      refine lp_nx (by simp [-Fl.rt.injEq, -Fl.nx.injEq, -Fl.er.injEq, -Fl.bk.injEq, -Fl.ct.injEq, -Res.ok.injEq, -List.cons.injEq, -Option.some.injEq, -Prod.mk.injEq, -O.val.injEq, -D.int.injEq, -D.nd.injEq, -List.getD_eq_getElem?_getD, -List.map_replicate, -List.map_take, -List.map_drop, -List.map_map, -List.map_append, -List.map_reverse, ne_told, w_lvalue ha.pol.s hb, same8i] <;> rfl) ?_
      exact ⟨_, _, _, rfl⟩
    · rintro _ ⟨c, x5, x7, rfl⟩
      refine q_rt (by simp [-Fl.rt.injEq, -Fl.nx.injEq, -Fl.er.injEq, -Fl.bk.injEq, -Fl.ct.injEq, -Res.ok.injEq, -List.cons.injEq, -Option.some.injEq, -Prod.mk.injEq, -O.val.injEq, -D.int.injEq, -D.nd.injEq, -List.getD_eq_getElem?_getD, -List.map_replicate, -List.map_take, -List.map_drop, -List.map_map, -List.map_append, -List.map_reverse] <;> rfl) ?_
      exact ⟨rfl, c, rfl⟩
  obtain ⟨_, _, e, rfl, c', rfl⟩ := key
  exact ⟨c', e⟩
def nums : List D := [.bl true, .non, .str "1", .nd .tup [.int 1], .nd .lst [.int 2], .bl false, .nd .tup []]
theorem ix_nums {r : Nat} (hr : r < 7) : ∃ d, (plainH d = true ∧ isInt d = false ∧ Shw 3 200000 d) ∧ ixD (.nd .lst nums) (.int (r : Int)) = some d := by
  have h : r < nums.length := hr
  refine ⟨nums[r], ?_, v_ixL (by simp [h])⟩
  have hm := List.getElem_mem h
  generalize nums[r] = d at hm
  simp only [nums, List.mem_cons, List.not_mem_nil, or_false] at hm
  have s1 : ∀ {i : Int}, i.natAbs < 10 ^ 30 → ∀ e ∈ [D.int i], Shw 1 31 e := fun h e he => by rw [List.mem_singleton] at he; subst he; exact .int h (by decide) (by decide)
  rcases hm with rfl | rfl | rfl | rfl | rfl | rfl | rfl
  · exact ⟨rfl, rfl, .bl _ (by decide)⟩
  · exact ⟨rfl, rfl, .non (by decide)⟩
  · exact ⟨rfl, rfl, .str (by decide +kernel)⟩
  · exact ⟨rfl, rfl, (Shw.tup (s1 (by decide)) (by simp : _ ≤ 1000)).mono (by decide) (by decide)⟩
  · exact ⟨rfl, rfl, (Shw.lst (s1 (by decide)) (by simp : _ ≤ 1000)).mono (by decide) (by decide)⟩
  · exact ⟨rfl, rfl, .bl _ (by decide)⟩
  · exact ⟨rfl, rfl, (Shw.tup (k := 0) (n := 0) (by simp) (by simp : _ ≤ 1000)).mono (by decide) (by decide)⟩
theorem w_refused (c : Dk) {a : List Int} (ha : Pd a) : ∃ c', F__law_refused [dk c, .val (iw a)] = .ok (.val (.bl true), dk c') := by
  have key : ∃ o o1, F__law_refused [dk c, .val (iw a)] = .ok (o, o1) ∧ o = .val (.bl true) ∧ ∃ c', o1 = dk c' := by
    have hal := ha.l
    unfold F__law_refused
    refine fn_T ?_
    unfold m__law_refused
    obtain ⟨n, c1, hn, e⟩ := w_odd c (a := a) (by omega)
    refine seq_nx (by simp [-Fl.rt.injEq, -Fl.nx.injEq, -Fl.er.injEq, -Fl.bk.injEq, -Fl.ct.injEq, -Res.ok.injEq, -List.cons.injEq, -Option.some.injEq, -Prod.mk.injEq, -O.val.injEq, -D.int.injEq, -D.nd.injEq, -List.getD_eq_getElem?_getD, -List.map_replicate, -List.map_take, -List.map_drop, -List.map_map, -List.map_append, -List.map_reverse, e] <;> rfl) ?_
    have ok := odds_ok (a := a) (n := n) (by omega) ha.b
    refine seq_nx (ρ' := [some (dk c1), some (.val (iw a)), some (.val (.nd .lst (odds a n))), some (.val (.nd .lst nums)), none, none, none, none, none]) ?_ ?_
    · unfold nums; exact (by simp [-Fl.rt.injEq, -Fl.nx.injEq, -Fl.er.injEq, -Fl.bk.injEq, -Fl.ct.injEq, -Res.ok.injEq, -List.cons.injEq, -Option.some.injEq, -Prod.mk.injEq, -O.val.injEq, -D.int.injEq, -D.nd.injEq, -List.getD_eq_getElem?_getD, -List.map_replicate, -List.map_take, -List.map_drop, -List.map_map, -List.map_append, -List.map_reverse] <;> rfl)
    have hg : irng1 (mret (.int 4)) [some (dk c1), some (.val (iw a)), some (.val (.nd .lst (odds a n))), some (.val (.nd .lst nums)), none, none, none, none, none] = .ok ((List.range 4).map nD, [some (dk c1), some (.val (iw a)), some (.val (.nd .lst (odds a n))), some (.val (.nd .lst nums)), none, none, none, none, none]) := v_rangeN (n := 4) rfl (by decide)
    refine seq_for (fun k ρ => ∃ c x4 x5 x6 x7 x8, ρ = [some (dk c), some (.val (iw a)), some (.val (.nd .lst (odds a n))), some (.val (.nd .lst nums)), x4, x5, x6, x7, x8]) hg ⟨c1, _, _, _, _, _, rfl⟩ ?_ ?_
    · rintro k d ρ hd ⟨c, x4, x5, x6, x7, x8, rfl⟩
      obtain ⟨hk, rfl⟩ := range_get hd
      refine ⟨_, (by simp [-Fl.rt.injEq, -Fl.nx.injEq, -Fl.er.injEq, -Fl.bk.injEq, -Fl.ct.injEq, -Res.ok.injEq, -List.cons.injEq, -Option.some.injEq, -Prod.mk.injEq, -O.val.injEq, -D.int.injEq, -D.nd.injEq, -List.getD_eq_getElem?_getD, -List.map_replicate, -List.map_take, -List.map_drop, -List.map_map, -List.map_append, -List.map_reverse] <;> rfl), ?_⟩
      have hlen : lenD [.nd .lst (odds a n)] = some (.int 22) := rfl
      obtain ⟨r, c1, hr, e⟩ := w_draw c (L := 22) (by omega) (by omega)
      obtain ⟨bad, hb, e2⟩ := ix_odds (a := a) (n := n) (r := r) (by omega)
      have ob := ok bad hb
      obtain ⟨t, e3, ot⟩ := ob.s.repr
      refine seq_nx (by simp [-Fl.rt.injEq, -Fl.nx.injEq, -Fl.er.injEq, -Fl.bk.injEq, -Fl.ct.injEq, -Res.ok.injEq, -List.cons.injEq, -Option.some.injEq, -Prod.mk.injEq, -O.val.injEq, -D.int.injEq, -D.nd.injEq, -List.getD_eq_getElem?_getD, -List.map_replicate, -List.map_take, -List.map_drop, -List.map_map, -List.map_append, -List.map_reverse, hlen, e, e2] <;> rfl) ?_
      obtain ⟨r, c2, hr, e⟩ := w_draw c1 (L := 22) (by omega) (by omega)
      obtain ⟨wor, hw, e4⟩ := ix_odds (a := a) (n := n) (r := r) (by omega)
      refine seq_nx (by simp [-Fl.rt.injEq, -Fl.nx.injEq, -Fl.er.injEq, -Fl.bk.injEq, -Fl.ct.injEq, -Res.ok.injEq, -List.cons.injEq, -Option.some.injEq, -Prod.mk.injEq, -O.val.injEq, -D.int.injEq, -D.nd.injEq, -List.getD_eq_getElem?_getD, -List.map_replicate, -List.map_take, -List.map_drop, -List.map_map, -List.map_append, -List.map_reverse, hlen, e, e4] <;> rfl) ?_
      refine seq_nx (by simp [-Fl.rt.injEq, -Fl.nx.injEq, -Fl.er.injEq, -Fl.bk.injEq, -Fl.ct.injEq, -Res.ok.injEq, -List.cons.injEq, -Option.some.injEq, -Prod.mk.injEq, -O.val.injEq, -D.int.injEq, -D.nd.injEq, -List.getD_eq_getElem?_getD, -List.map_replicate, -List.map_take, -List.map_drop, -List.map_map, -List.map_append, -List.map_reverse, e3] <;> rfl) ?_
      obtain ⟨r, c3, hr, e⟩ := w_draw c2 (L := 2) (by omega) (by omega)
      refine seq_nx (by simp [-Fl.rt.injEq, -Fl.nx.injEq, -Fl.er.injEq, -Fl.bk.injEq, -Fl.ct.injEq, -Res.ok.injEq, -List.cons.injEq, -Option.some.injEq, -Prod.mk.injEq, -O.val.injEq, -D.int.injEq, -D.nd.injEq, -List.getD_eq_getElem?_getD, -List.map_replicate, -List.map_take, -List.map_drop, -List.map_map, -List.map_append, -List.map_reverse, e] <;> rfl) ?_
      generalize decide ((r : Int) = 0) = nm
      have q1 := ne_pair ok_poly ot
      have B1 := fun e : D => bad_1 (e := e) ob.z ob.p
      have B2 := bad_2 ha.pol.pz ha.pol.p ob.z ob.p
      rcases (show k = 0 ∨ k = 1 ∨ k = 2 ∨ k = 3 by omega) with rfl | rfl | rfl | rfl
      · refine seq_nx (by simp [-Fl.rt.injEq, -Fl.nx.injEq, -Fl.er.injEq, -Fl.bk.injEq, -Fl.ct.injEq, -Res.ok.injEq, -List.cons.injEq, -Option.some.injEq, -Prod.mk.injEq, -O.val.injEq, -D.int.injEq, -D.nd.injEq, -List.getD_eq_getElem?_getD, -List.map_replicate, -List.map_take, -List.map_drop, -List.map_map, -List.map_append, -List.map_reverse, toldP0 B2.1 e3, toldP0 (B1 (iw a)).1 e3, q1] <;> rfl) ?_
        refine lp_nx (by simp [-Fl.rt.injEq, -Fl.nx.injEq, -Fl.er.injEq, -Fl.bk.injEq, -Fl.ct.injEq, -Res.ok.injEq, -List.cons.injEq, -Option.some.injEq, -Prod.mk.injEq, -O.val.injEq, -D.int.injEq, -D.nd.injEq, -List.getD_eq_getElem?_getD, -List.map_replicate, -List.map_take, -List.map_drop, -List.map_map, -List.map_append, -List.map_reverse, toldP0 (B1 wor).1 e3, q1] <;> rfl) ?_
        exact ⟨_, _, _, _, _, _, rfl⟩
      · refine seq_nx (by simp [-Fl.rt.injEq, -Fl.nx.injEq, -Fl.er.injEq, -Fl.bk.injEq, -Fl.ct.injEq, -Res.ok.injEq, -List.cons.injEq, -Option.some.injEq, -Prod.mk.injEq, -O.val.injEq, -D.int.injEq, -D.nd.injEq, -List.getD_eq_getElem?_getD, -List.map_replicate, -List.map_take, -List.map_drop, -List.map_map, -List.map_append, -List.map_reverse, toldP1 B2.2.1 e3, toldP1 (B1 (iw a)).2.1 e3, q1] <;> rfl) ?_
        refine lp_nx (by simp [-Fl.rt.injEq, -Fl.nx.injEq, -Fl.er.injEq, -Fl.bk.injEq, -Fl.ct.injEq, -Res.ok.injEq, -List.cons.injEq, -Option.some.injEq, -Prod.mk.injEq, -O.val.injEq, -D.int.injEq, -D.nd.injEq, -List.getD_eq_getElem?_getD, -List.map_replicate, -List.map_take, -List.map_drop, -List.map_map, -List.map_append, -List.map_reverse, toldP1 (B1 wor).2.1 e3, q1] <;> rfl) ?_
        exact ⟨_, _, _, _, _, _, rfl⟩
      · refine seq_nx (by simp [-Fl.rt.injEq, -Fl.nx.injEq, -Fl.er.injEq, -Fl.bk.injEq, -Fl.ct.injEq, -Res.ok.injEq, -List.cons.injEq, -Option.some.injEq, -Prod.mk.injEq, -O.val.injEq, -D.int.injEq, -D.nd.injEq, -List.getD_eq_getElem?_getD, -List.map_replicate, -List.map_take, -List.map_drop, -List.map_map, -List.map_append, -List.map_reverse, toldP2 B2.2.2 e3, toldP2 (B1 (iw a)).2.2.1 e3, q1] <;> rfl) ?_
        refine lp_nx (by simp [-Fl.rt.injEq, -Fl.nx.injEq, -Fl.er.injEq, -Fl.bk.injEq, -Fl.ct.injEq, -Res.ok.injEq, -List.cons.injEq, -Option.some.injEq, -Prod.mk.injEq, -O.val.injEq, -D.int.injEq, -D.nd.injEq, -List.getD_eq_getElem?_getD, -List.map_replicate, -List.map_take, -List.map_drop, -List.map_map, -List.map_append, -List.map_reverse, toldP2 (B1 wor).2.2.1 e3, q1] <;> rfl) ?_
        exact ⟨_, _, _, _, _, _, rfl⟩
      · obtain ⟨r, c4, hr, e⟩ := w_draw c3 (L := 7) (by omega) (by omega)
        obtain ⟨num, ⟨h1, h2, h3⟩, e5⟩ := ix_nums (r := r) (by omega)
        obtain ⟨u, e6, ou⟩ := h3.repr
        have q2 := ne_pair ok_num ou
        refine seq_nx (by simp [-Fl.rt.injEq, -Fl.nx.injEq, -Fl.er.injEq, -Fl.bk.injEq, -Fl.ct.injEq, -Res.ok.injEq, -List.cons.injEq, -Option.some.injEq, -Prod.mk.injEq, -O.val.injEq, -D.int.injEq, -D.nd.injEq, -List.getD_eq_getElem?_getD, -List.map_replicate, -List.map_take, -List.map_drop, -List.map_map, -List.map_append, -List.map_reverse, e, e5, toldN (bad_n ha.pol h1 h2) e6, e6, q2, toldP3 (B1 (.int 5)).2.2.2 e3, q1] <;> rfl) ?_
        refine lp_nx (by simp [-Fl.rt.injEq, -Fl.nx.injEq, -Fl.er.injEq, -Fl.bk.injEq, -Fl.ct.injEq, -Res.ok.injEq, -List.cons.injEq, -Option.some.injEq, -Prod.mk.injEq, -O.val.injEq, -D.int.injEq, -D.nd.injEq, -List.getD_eq_getElem?_getD, -List.map_replicate, -List.map_take, -List.map_drop, -List.map_map, -List.map_append, -List.map_reverse, toldP3 (B1 num).2.2.2 e3, q1] <;> rfl) ?_
        exact ⟨_, _, _, _, _, _, rfl⟩
    · rintro _ ⟨c, x4, x5, x6, x7, x8, rfl⟩
      refine q_rt (by simp [-Fl.rt.injEq, -Fl.nx.injEq, -Fl.er.injEq, -Fl.bk.injEq, -Fl.ct.injEq, -Res.ok.injEq, -List.cons.injEq, -Option.some.injEq, -Prod.mk.injEq, -O.val.injEq, -D.int.injEq, -D.nd.injEq, -List.getD_eq_getElem?_getD, -List.map_replicate, -List.map_take, -List.map_drop, -List.map_map, -List.map_append, -List.map_reverse] <;> rfl) ?_
      exact ⟨rfl, c, rfl⟩
  obtain ⟨_, _, e, rfl, c', rfl⟩ := key
  exact ⟨c', e⟩
end L52
set_option Elab.async false
set_option maxRecDepth 100000
set_option linter.all false
namespace L52
open PySem L2 Y
theorem w_deck {ns : List Int} (h : ns.length ≤ 63) : F__law_deck [.val (.nd .scr (ns.map .int))] = .ok (dk ⟨ns, 0, 0, 5⟩, .val .non) := by
  unfold F__law_deck
  refine fn_V ?_
  unfold m__law_deck
  have hc : cutL none (some (63 : Int)) (.nd .scr (ns.map .int)) = some (ns.map .int) := by
    show some (cutD _ _ _) = _
    have := @cutD_lo (ns.map .int) 63
    have h2 : cutD (ns.map D.int) none (some (63 : Int)) = (ns.map D.int).take 63 := this
    rw [h2, List.take_of_length_le (by simpa using h)]
  generalize hm : mcomp _ _ _ _ _ = C
  have e : C [some (.val (.nd .scr (ns.map .int))), none] = .ok _ := hm ▸ mcomp_ints (g := fun x => .int x) (l := ns) (by simp [-Fl.rt.injEq, -Fl.nx.injEq, -Fl.er.injEq, -Fl.bk.injEq, -Fl.ct.injEq, -Res.ok.injEq, -List.cons.injEq, -Option.some.injEq, -Prod.mk.injEq, -O.val.injEq, -D.int.injEq, -D.nd.injEq, -List.getD_eq_getElem?_getD, -List.map_replicate, -List.map_take, -List.map_drop, -List.map_map, -List.map_append, -List.map_reverse, mcutL, mpart, hc] <;> rfl) rfl (by omega) (by
    intro x hx
    exact (by simp [-Fl.rt.injEq, -Fl.nx.injEq, -Fl.er.injEq, -Fl.bk.injEq, -Fl.ct.injEq, -Res.ok.injEq, -List.cons.injEq, -Option.some.injEq, -Prod.mk.injEq, -O.val.injEq, -D.int.injEq, -D.nd.injEq, -List.getD_eq_getElem?_getD, -List.map_replicate, -List.map_take, -List.map_drop, -List.map_map, -List.map_append, -List.map_reverse] <;> rfl))
  refine q_rt (by simp [-Fl.rt.injEq, -Fl.nx.injEq, -Fl.er.injEq, -Fl.bk.injEq, -Fl.ct.injEq, -Res.ok.injEq, -List.cons.injEq, -Option.some.injEq, -Prod.mk.injEq, -O.val.injEq, -D.int.injEq, -D.nd.injEq, -List.getD_eq_getElem?_getD, -List.map_replicate, -List.map_take, -List.map_drop, -List.map_map, -List.map_append, -List.map_reverse, e] <;> rfl) ?_
  rfl
theorem w_all {ns : List Int} (h : ns.length ≤ 63) : F__law_all [.val (.nd .scr (ns.map .int))] = .ok (.val (.bl true), .val .non) := by
  unfold F__law_all
  refine fn_V ?_
  unfold m__law_all
  have hs := w_deck h
  refine seq_nx (by simp [-Fl.rt.injEq, -Fl.nx.injEq, -Fl.er.injEq, -Fl.bk.injEq, -Fl.ct.injEq, -Res.ok.injEq, -List.cons.injEq, -Option.some.injEq, -Prod.mk.injEq, -O.val.injEq, -D.int.injEq, -D.nd.injEq, -List.getD_eq_getElem?_getD, -List.map_replicate, -List.map_take, -List.map_drop, -List.map_map, -List.map_append, -List.map_reverse, hs] <;> rfl) ?_
  generalize (⟨ns, 0, 0, 5⟩ : Dk) = c
  obtain ⟨r, c1, hr, e⟩ := w_draw c (L := 6) (by omega) (by omega)
  obtain ⟨m, f, hm, hf1, hf2, e2⟩ : ∃ m f : Nat, m ≤ 40 ∧ 1 ≤ f ∧ f ≤ 30 ∧ ixD (.nd .lst [.nd .tup [.int 40, .int 3], .nd .tup [.int 12, .int 12], .nd .tup [.int 40, .int 30], .nd .tup [.int 5, .int 2], .nd .tup [.int 8, .int 6], .nd .tup [.int 6, .int 30]]) (.int (r : Int)) = some (.nd .tup [.int (m : Int), .int (f : Int)]) := by
    rcases (show r = 0 ∨ r = 1 ∨ r = 2 ∨ r = 3 ∨ r = 4 ∨ r = 5 by omega) with rfl | rfl | rfl | rfl | rfl | rfl
    · exact ⟨40, 3, by decide, by decide, by decide, rfl⟩
    · exact ⟨12, 12, by decide, by decide, by decide, rfl⟩
    · exact ⟨40, 30, by decide, by decide, by decide, rfl⟩
    · exact ⟨5, 2, by decide, by decide, by decide, rfl⟩
    · exact ⟨8, 6, by decide, by decide, by decide, rfl⟩
    · exact ⟨6, 30, by decide, by decide, by decide, rfl⟩
  refine seq_nx (by simp [-Fl.rt.injEq, -Fl.nx.injEq, -Fl.er.injEq, -Fl.bk.injEq, -Fl.ct.injEq, -Res.ok.injEq, -List.cons.injEq, -Option.some.injEq, -Prod.mk.injEq, -O.val.injEq, -D.int.injEq, -D.nd.injEq, -List.getD_eq_getElem?_getD, -List.map_replicate, -List.map_take, -List.map_drop, -List.map_map, -List.map_append, -List.map_reverse, e, e2] <;> rfl) ?_
  refine seq_cut (fun ρ => ∃ c m f, (m ≤ 40 ∧ 1 ≤ f ∧ f ≤ 30) ∧ ρ = [some (.val (.nd .scr (ns.map .int))), some (dk c), some (.val (.int ((m : Nat) : Int))), some (.val (.int ((f : Nat) : Int))), none, none, none]) ?_ ?_
  · have hmul := v_mul (i := (m : Int)) (j := (f : Int)) (mulS (by omega))
    by_cases h1 : (200 : Int) < (m : Int) * (f : Int)
    · obtain ⟨r, c2, hr, e⟩ := w_draw c1 (L := 3) (by omega) (by omega)
      by_cases h2 : 0 < r
      · refine md_nx (by simp [-Fl.rt.injEq, -Fl.nx.injEq, -Fl.er.injEq, -Fl.bk.injEq, -Fl.ct.injEq, -Res.ok.injEq, -List.cons.injEq, -Option.some.injEq, -Prod.mk.injEq, -O.val.injEq, -D.int.injEq, -D.nd.injEq, -List.getD_eq_getElem?_getD, -List.map_replicate, -List.map_take, -List.map_drop, -List.map_map, -List.map_append, -List.map_reverse, hmul, gtDv, h1, e, h2] <;> rfl) ?_
        exact ⟨c2, 9, 9, by decide, rfl⟩
      · refine md_nx (by simp [-Fl.rt.injEq, -Fl.nx.injEq, -Fl.er.injEq, -Fl.bk.injEq, -Fl.ct.injEq, -Res.ok.injEq, -List.cons.injEq, -Option.some.injEq, -Prod.mk.injEq, -O.val.injEq, -D.int.injEq, -D.nd.injEq, -List.getD_eq_getElem?_getD, -List.map_replicate, -List.map_take, -List.map_drop, -List.map_map, -List.map_append, -List.map_reverse, hmul, gtDv, h1, e, h2] <;> rfl) ?_
        exact ⟨c2, m, f, ⟨hm, hf1, hf2⟩, rfl⟩
    · refine md_nx (by simp [-Fl.rt.injEq, -Fl.nx.injEq, -Fl.er.injEq, -Fl.bk.injEq, -Fl.ct.injEq, -Res.ok.injEq, -List.cons.injEq, -Option.some.injEq, -Prod.mk.injEq, -O.val.injEq, -D.int.injEq, -D.nd.injEq, -List.getD_eq_getElem?_getD, -List.map_replicate, -List.map_take, -List.map_drop, -List.map_map, -List.map_append, -List.map_reverse, hmul, gtDv, h1] <;> rfl) ?_
      exact ⟨c1, m, f, ⟨hm, hf1, hf2⟩, rfl⟩
  clear e2 hm hf1 hf2 m f
  rintro _ ⟨c, m, f, ⟨hm, hf1, hf2⟩, rfl⟩
  obtain ⟨a, c1, ha, e⟩ := w_drawn c hm hf1 hf2
  refine seq_nx (by simp [-Fl.rt.injEq, -Fl.nx.injEq, -Fl.er.injEq, -Fl.bk.injEq, -Fl.ct.injEq, -Res.ok.injEq, -List.cons.injEq, -Option.some.injEq, -Prod.mk.injEq, -O.val.injEq, -D.int.injEq, -D.nd.injEq, -List.getD_eq_getElem?_getD, -List.map_replicate, -List.map_take, -List.map_drop, -List.map_map, -List.map_append, -List.map_reverse, e] <;> rfl) ?_
  obtain ⟨b, c2, hb, e⟩ := w_drawn c1 hm hf1 hf2
  refine seq_nx (by simp [-Fl.rt.injEq, -Fl.nx.injEq, -Fl.er.injEq, -Fl.bk.injEq, -Fl.ct.injEq, -Res.ok.injEq, -List.cons.injEq, -Option.some.injEq, -Prod.mk.injEq, -O.val.injEq, -D.int.injEq, -D.nd.injEq, -List.getD_eq_getElem?_getD, -List.map_replicate, -List.map_take, -List.map_drop, -List.map_map, -List.map_append, -List.map_reverse, e] <;> rfl) ?_
  refine seq_cut (fun ρ => ∃ c b, Pd b ∧ ρ = [some (.val (.nd .scr (ns.map .int))), some (dk c), some (.val (.int ((m : Nat) : Int))), some (.val (.int ((f : Nat) : Int))), some (.val (iw a)), some (.val (iw b)), none]) ?_ ?_
  · obtain ⟨r, c3, hr, e⟩ := w_draw c2 (L := 2) (by omega) (by omega)
    by_cases h2 : r = 0
    · obtain ⟨k, c4, hk, e5⟩ := w_kin c3 ha
      refine md_nx (by simp [-Fl.rt.injEq, -Fl.nx.injEq, -Fl.er.injEq, -Fl.bk.injEq, -Fl.ct.injEq, -Res.ok.injEq, -List.cons.injEq, -Option.some.injEq, -Prod.mk.injEq, -O.val.injEq, -D.int.injEq, -D.nd.injEq, -List.getD_eq_getElem?_getD, -List.map_replicate, -List.map_take, -List.map_drop, -List.map_map, -List.map_append, -List.map_reverse, e, h2, e5] <;> rfl) ?_
      exact ⟨c4, k, hk, rfl⟩
    · refine md_nx (by simp [-Fl.rt.injEq, -Fl.nx.injEq, -Fl.er.injEq, -Fl.bk.injEq, -Fl.ct.injEq, -Res.ok.injEq, -List.cons.injEq, -Option.some.injEq, -Prod.mk.injEq, -O.val.injEq, -D.int.injEq, -D.nd.injEq, -List.getD_eq_getElem?_getD, -List.map_replicate, -List.map_take, -List.map_drop, -List.map_map, -List.map_append, -List.map_reverse, e, h2] <;> rfl) ?_
      exact ⟨c3, b, hb, rfl⟩
  clear e hb b
  rintro _ ⟨c, b, hb, rfl⟩
  obtain ⟨s, c1, hs, e⟩ := w_drawn c (m := 3) (f := 2) (by decide) (by decide) (by decide)
  have e' : F__law_drawn [dk c, .val (.int 3), .val (.int 2)] = .ok (.val (iw s), dk c1) := e
  refine seq_nx (by simp [-Fl.rt.injEq, -Fl.nx.injEq, -Fl.er.injEq, -Fl.bk.injEq, -Fl.ct.injEq, -Res.ok.injEq, -List.cons.injEq, -Option.some.injEq, -Prod.mk.injEq, -O.val.injEq, -D.int.injEq, -D.nd.injEq, -List.getD_eq_getElem?_getD, -List.map_replicate, -List.map_take, -List.map_drop, -List.map_map, -List.map_append, -List.map_reverse, e'] <;> rfl) ?_
  obtain ⟨c2, e2⟩ := w_answered c1 ha hb
  obtain ⟨c3, e3⟩ := w_answered c2 (a := []) ⟨by simp, by simp, by simp⟩ hs
  refine seq_nx (by simp [-Fl.rt.injEq, -Fl.nx.injEq, -Fl.er.injEq, -Fl.bk.injEq, -Fl.ct.injEq, -Res.ok.injEq, -List.cons.injEq, -Option.some.injEq, -Prod.mk.injEq, -O.val.injEq, -D.int.injEq, -D.nd.injEq, -List.getD_eq_getElem?_getD, -List.map_replicate, -List.map_take, -List.map_drop, -List.map_map, -List.map_append, -List.map_reverse, e2, e3] <;> rfl) ?_
  obtain ⟨c4, e4⟩ := w_judged c3 hs
  obtain ⟨c5, e5⟩ := w_judged c4 ha
  obtain ⟨c6, e6⟩ := w_refused c5 hs
  refine q_rt (by simp [-Fl.rt.injEq, -Fl.nx.injEq, -Fl.er.injEq, -Fl.bk.injEq, -Fl.ct.injEq, -Res.ok.injEq, -List.cons.injEq, -Option.some.injEq, -Prod.mk.injEq, -O.val.injEq, -D.int.injEq, -D.nd.injEq, -List.getD_eq_getElem?_getD, -List.map_replicate, -List.map_take, -List.map_drop, -List.map_map, -List.map_append, -List.map_reverse, e4, e5, e6] <;> rfl) ?_
  rfl
theorem law_true (ns : List Int) (h : ns.length ≤ 63) : F_law [.val (.nd .scr (ns.map .int))] = .ok (.val (.bl true), .val .non) := by
  have e := w_all (ns := ns) (by omega)
  unfold F_law
  refine fn_V ?_
  unfold m_law
  refine q_rt (by simp [-Fl.rt.injEq, -Fl.nx.injEq, -Fl.er.injEq, -Fl.bk.injEq, -Fl.ct.injEq, -Res.ok.injEq, -List.cons.injEq, -Option.some.injEq, -Prod.mk.injEq, -O.val.injEq, -D.int.injEq, -D.nd.injEq, -List.getD_eq_getElem?_getD, -List.map_replicate, -List.map_take, -List.map_drop, -List.map_map, -List.map_append, -List.map_reverse, stry, e] <;> rfl) ?_
  rfl
end L52
namespace L52
open PySem L2 Y
open PySem.Spec PyProof.Rows
theorem all_mk {P : Program} {w : World} {K : PySem.W.Frag} {h : Heap} {mg : Str → Option Value} {fa : Addr} (X : K.In h) (G : h.Ns mainGlobals mg) (hfa : mg "law" = some (.ref fa))
    {a0 a1 a2 a3 a4 a5 a6 a7 a8 a9 a10 a11 a12 a13 a14 a15 a16 a17 a18 a19 a20 a21 a22 a23 a24 a25 a26 a27 a28 a29 c0 c1 c2 c3 c4 c5 : Addr}
    {od0 an0 od1 an1 od2 an2 od3 an3 od4 an4 od5 an5 od6 an6 od7 an7 od8 an8 od9 an9 od10 an10 od11 an11 od12 an12 od13 an13 od14 an14 od15 an15 od16 an16 od17 an17 od18 an18 od19 an19 od20 an20 od21 an21 od22 an22 od23 an23 od24 an24 od25 an25 od26 an26 od27 an27 od28 an28 od29 an29 : Option Addr} {sl0 sl1 sl2 sl3 sl4 sl5 sl6 sl7 sl8 sl9 sl10 sl11 sl12 sl13 sl14 sl15 sl16 sl17 sl18 sl19 sl20 sl21 sl22 sl23 sl24 sl25 sl26 sl27 sl28 sl29 : Array (Option Value)} {oc0 kV0 dc0 pm0 cd0 ct0 oc1 kV1 dc1 pm1 cd1 ct1 oc2 kV2 dc2 pm2 cd2 ct2 oc3 kV3 dc3 pm3 cd3 ct3 oc4 kV4 dc4 pm4 cd4 ct4 oc5 kV5 dc5 pm5 cd5 ct5 oc6 kV6 dc6 pm6 cd6 ct6 oc7 kV7 dc7 pm7 cd7 ct7 oc8 kV8 dc8 pm8 cd8 ct8 oc9 kV9 dc9 pm9 cd9 ct9 oc10 kV10 dc10 pm10 cd10 ct10 oc11 kV11 dc11 pm11 cd11 ct11 oc12 kV12 dc12 pm12 cd12 ct12 oc13 kV13 dc13 pm13 cd13 ct13 oc14 kV14 dc14 pm14 cd14 ct14 oc15 kV15 dc15 pm15 cd15 ct15 oc16 kV16 dc16 pm16 cd16 ct16 oc17 kV17 dc17 pm17 cd17 ct17 oc18 kV18 dc18 pm18 cd18 ct18 oc19 kV19 dc19 pm19 cd19 ct19 oc20 kV20 dc20 pm20 cd20 ct20 oc21 kV21 dc21 pm21 cd21 ct21 oc22 kV22 dc22 pm22 cd22 ct22 oc23 kV23 dc23 pm23 cd23 ct23 oc24 kV24 dc24 pm24 cd24 ct24 oc25 kV25 dc25 pm25 cd25 ct25 oc26 kV26 dc26 pm26 cd26 ct26 oc27 kV27 dc27 pm27 cd27 ct27 oc28 kV28 dc28 pm28 cd28 ct28 oc29 kV29 dc29 pm29 cd29 ct29 : Value}
    {nm1 qu1 : Str} {NN1 : Addr} {bs1 bm1 : List Value} {sn1 : List Str} {sb1 : List Value} {ab1 : Bool} {co1 : Option Bool} {dd1 : Option Addr} {ka1 kb1 kc1 kd1 ke1 : Option Value}
    {nm3 qu3 : Str} {NN3 : Addr} {bs3 bm3 : List Value} {sn3 : List Str} {sb3 : List Value} {ab3 : Bool} {co3 : Option Bool} {dd3 : Option Addr} {ka3 kb3 kc3 kd3 ke3 : Option Value}
    (a_0 : PySem.W.nsIn K mainGlobals "trimmed" = some (some (.ref a0)))
    (l_0 : K.lookup a0 = some ⟨oc0, od0, .func (PySem.W.fnOf "trimmed" "trimmed" (defArgs s_trimmed) (defBody s_trimmed) (defScope s_trimmed) .none kV0 dc0 pm0 an0 cd0 ct0), sl0⟩)
    (g_0 : PySem.W.codeIn K cd0 "trimmed" = true)
    (k_0 : PySem.W.keepIn K (.ref a0) = true)
    (a_1 : PySem.W.nsIn K mainGlobals "is_integer" = some (some (.ref a1)))
    (l_1 : K.lookup a1 = some ⟨oc1, od1, .func (PySem.W.fnOf "is_integer" "is_integer" (defArgs s_is_integer) (defBody s_is_integer) (defScope s_is_integer) .none kV1 dc1 pm1 an1 cd1 ct1), sl1⟩)
    (g_1 : PySem.W.codeIn K cd1 "is_integer" = true)
    (k_1 : PySem.W.keepIn K (.ref a1) = true)
    (a_2 : PySem.W.nsIn K mainGlobals "is_polynomial" = some (some (.ref a2)))
    (l_2 : K.lookup a2 = some ⟨oc2, od2, .func (PySem.W.fnOf "is_polynomial" "is_polynomial" (defArgs s_is_polynomial) (defBody s_is_polynomial) (defScope s_is_polynomial) .none kV2 dc2 pm2 an2 cd2 ct2), sl2⟩)
    (g_2 : PySem.W.codeIn K cd2 "is_polynomial" = true)
    (k_2 : PySem.W.keepIn K (.ref a2) = true)
    (a_3 : PySem.W.nsIn K mainGlobals "look_at_polynomials" = some (some (.ref a3)))
    (l_3 : K.lookup a3 = some ⟨oc3, od3, .func (PySem.W.fnOf "look_at_polynomials" "look_at_polynomials" (defArgs s_look_at_polynomials) (defBody s_look_at_polynomials) (defScope s_look_at_polynomials) .none kV3 dc3 pm3 an3 cd3 ct3), sl3⟩)
    (g_3 : PySem.W.codeIn K cd3 "look_at_polynomials" = true)
    (k_3 : PySem.W.keepIn K (.ref a3) = true)
    (a_4 : PySem.W.nsIn K mainGlobals "negative" = some (some (.ref a4)))
    (l_4 : K.lookup a4 = some ⟨oc4, od4, .func (PySem.W.fnOf "negative" "negative" (defArgs s_negative) (defBody s_negative) (defScope s_negative) .none kV4 dc4 pm4 an4 cd4 ct4), sl4⟩)
    (g_4 : PySem.W.codeIn K cd4 "negative" = true)
    (k_4 : PySem.W.keepIn K (.ref a4) = true)
    (a_5 : PySem.W.nsIn K mainGlobals "sum_of" = some (some (.ref a5)))
    (l_5 : K.lookup a5 = some ⟨oc5, od5, .func (PySem.W.fnOf "sum_of" "sum_of" (defArgs s_sum_of) (defBody s_sum_of) (defScope s_sum_of) .none kV5 dc5 pm5 an5 cd5 ct5), sl5⟩)
    (g_5 : PySem.W.codeIn K cd5 "sum_of" = true)
    (k_5 : PySem.W.keepIn K (.ref a5) = true)
    (a_6 : PySem.W.nsIn K mainGlobals "product_of" = some (some (.ref a6)))
    (l_6 : K.lookup a6 = some ⟨oc6, od6, .func (PySem.W.fnOf "product_of" "product_of" (defArgs s_product_of) (defBody s_product_of) (defScope s_product_of) .none kV6 dc6 pm6 an6 cd6 ct6), sl6⟩)
    (g_6 : PySem.W.codeIn K cd6 "product_of" = true)
    (k_6 : PySem.W.keepIn K (.ref a6) = true)
    (a_7 : PySem.W.nsIn K mainGlobals "plus" = some (some (.ref a7)))
    (l_7 : K.lookup a7 = some ⟨oc7, od7, .func (PySem.W.fnOf "plus" "plus" (defArgs s_plus) (defBody s_plus) (defScope s_plus) .none kV7 dc7 pm7 an7 cd7 ct7), sl7⟩)
    (g_7 : PySem.W.codeIn K cd7 "plus" = true)
    (k_7 : PySem.W.keepIn K (.ref a7) = true)
    (a_8 : PySem.W.nsIn K mainGlobals "less" = some (some (.ref a8)))
    (l_8 : K.lookup a8 = some ⟨oc8, od8, .func (PySem.W.fnOf "less" "less" (defArgs s_less) (defBody s_less) (defScope s_less) .none kV8 dc8 pm8 an8 cd8 ct8), sl8⟩)
    (g_8 : PySem.W.codeIn K cd8 "less" = true)
    (k_8 : PySem.W.keepIn K (.ref a8) = true)
    (a_9 : PySem.W.nsIn K mainGlobals "times" = some (some (.ref a9)))
    (l_9 : K.lookup a9 = some ⟨oc9, od9, .func (PySem.W.fnOf "times" "times" (defArgs s_times) (defBody s_times) (defScope s_times) .none kV9 dc9 pm9 an9 cd9 ct9), sl9⟩)
    (g_9 : PySem.W.codeIn K cd9 "times" = true)
    (k_9 : PySem.W.keepIn K (.ref a9) = true)
    (a_10 : PySem.W.nsIn K mainGlobals "value_at" = some (some (.ref a10)))
    (l_10 : K.lookup a10 = some ⟨oc10, od10, .func (PySem.W.fnOf "value_at" "value_at" (defArgs s_value_at) (defBody s_value_at) (defScope s_value_at) .none kV10 dc10 pm10 an10 cd10 ct10), sl10⟩)
    (g_10 : PySem.W.codeIn K cd10 "value_at" = true)
    (k_10 : PySem.W.keepIn K (.ref a10) = true)
    (a_11 : PySem.W.nsIn K mainGlobals "_law_deck" = some (some (.ref a11)))
    (l_11 : K.lookup a11 = some ⟨oc11, od11, .func (PySem.W.fnOf "_law_deck" "_law_deck" (defArgs s__law_deck) (defBody s__law_deck) (defScope s__law_deck) .none kV11 dc11 pm11 an11 cd11 ct11), sl11⟩)
    (g_11 : PySem.W.codeIn K cd11 "_law_deck" = true)
    (k_11 : PySem.W.keepIn K (.ref a11) = true)
    (a_12 : PySem.W.nsIn K mainGlobals "_law_draw" = some (some (.ref a12)))
    (l_12 : K.lookup a12 = some ⟨oc12, od12, .func (PySem.W.fnOf "_law_draw" "_law_draw" (defArgs s__law_draw) (defBody s__law_draw) (defScope s__law_draw) .none kV12 dc12 pm12 an12 cd12 ct12), sl12⟩)
    (g_12 : PySem.W.codeIn K cd12 "_law_draw" = true)
    (k_12 : PySem.W.keepIn K (.ref a12) = true)
    (a_13 : PySem.W.nsIn K mainGlobals "_law_same" = some (some (.ref a13)))
    (l_13 : K.lookup a13 = some ⟨oc13, od13, .func (PySem.W.fnOf "_law_same" "_law_same" (defArgs s__law_same) (defBody s__law_same) (defScope s__law_same) .none kV13 dc13 pm13 an13 cd13 ct13), sl13⟩)
    (g_13 : PySem.W.codeIn K cd13 "_law_same" = true)
    (k_13 : PySem.W.keepIn K (.ref a13) = true)
    (a_14 : PySem.W.nsIn K mainGlobals "_law_trim" = some (some (.ref a14)))
    (l_14 : K.lookup a14 = some ⟨oc14, od14, .func (PySem.W.fnOf "_law_trim" "_law_trim" (defArgs s__law_trim) (defBody s__law_trim) (defScope s__law_trim) .none kV14 dc14 pm14 an14 cd14 ct14), sl14⟩)
    (g_14 : PySem.W.codeIn K cd14 "_law_trim" = true)
    (k_14 : PySem.W.keepIn K (.ref a14) = true)
    (a_15 : PySem.W.nsIn K mainGlobals "_law_plus" = some (some (.ref a15)))
    (l_15 : K.lookup a15 = some ⟨oc15, od15, .func (PySem.W.fnOf "_law_plus" "_law_plus" (defArgs s__law_plus) (defBody s__law_plus) (defScope s__law_plus) .none kV15 dc15 pm15 an15 cd15 ct15), sl15⟩)
    (g_15 : PySem.W.codeIn K cd15 "_law_plus" = true)
    (k_15 : PySem.W.keepIn K (.ref a15) = true)
    (a_16 : PySem.W.nsIn K mainGlobals "_law_times" = some (some (.ref a16)))
    (l_16 : K.lookup a16 = some ⟨oc16, od16, .func (PySem.W.fnOf "_law_times" "_law_times" (defArgs s__law_times) (defBody s__law_times) (defScope s__law_times) .none kV16 dc16 pm16 an16 cd16 ct16), sl16⟩)
    (g_16 : PySem.W.codeIn K cd16 "_law_times" = true)
    (k_16 : PySem.W.keepIn K (.ref a16) = true)
    (a_17 : PySem.W.nsIn K mainGlobals "_law_figures" = some (some (.ref a17)))
    (l_17 : K.lookup a17 = some ⟨oc17, od17, .func (PySem.W.fnOf "_law_figures" "_law_figures" (defArgs s__law_figures) (defBody s__law_figures) (defScope s__law_figures) .none kV17 dc17 pm17 an17 cd17 ct17), sl17⟩)
    (g_17 : PySem.W.codeIn K cd17 "_law_figures" = true)
    (k_17 : PySem.W.keepIn K (.ref a17) = true)
    (a_18 : PySem.W.nsIn K mainGlobals "_law_drawn" = some (some (.ref a18)))
    (l_18 : K.lookup a18 = some ⟨oc18, od18, .func (PySem.W.fnOf "_law_drawn" "_law_drawn" (defArgs s__law_drawn) (defBody s__law_drawn) (defScope s__law_drawn) .none kV18 dc18 pm18 an18 cd18 ct18), sl18⟩)
    (g_18 : PySem.W.codeIn K cd18 "_law_drawn" = true)
    (k_18 : PySem.W.keepIn K (.ref a18) = true)
    (a_19 : PySem.W.nsIn K mainGlobals "_law_kin" = some (some (.ref a19)))
    (l_19 : K.lookup a19 = some ⟨oc19, od19, .func (PySem.W.fnOf "_law_kin" "_law_kin" (defArgs s__law_kin) (defBody s__law_kin) (defScope s__law_kin) .none kV19 dc19 pm19 an19 cd19 ct19), sl19⟩)
    (g_19 : PySem.W.codeIn K cd19 "_law_kin" = true)
    (k_19 : PySem.W.keepIn K (.ref a19) = true)
    (a_20 : PySem.W.nsIn K mainGlobals "_law_told" = some (some (.ref a20)))
    (l_20 : K.lookup a20 = some ⟨oc20, od20, .func (PySem.W.fnOf "_law_told" "_law_told" (defArgs s__law_told) (defBody s__law_told) (defScope s__law_told) .none kV20 dc20 pm20 an20 cd20 ct20), sl20⟩)
    (g_20 : PySem.W.codeIn K cd20 "_law_told" = true)
    (k_20 : PySem.W.keepIn K (.ref a20) = true)
    (a_21 : PySem.W.nsIn K mainGlobals "_law_value" = some (some (.ref a21)))
    (l_21 : K.lookup a21 = some ⟨oc21, od21, .func (PySem.W.fnOf "_law_value" "_law_value" (defArgs s__law_value) (defBody s__law_value) (defScope s__law_value) .none kV21 dc21 pm21 an21 cd21 ct21), sl21⟩)
    (g_21 : PySem.W.codeIn K cd21 "_law_value" = true)
    (k_21 : PySem.W.keepIn K (.ref a21) = true)
    (a_22 : PySem.W.nsIn K mainGlobals "_law_answered" = some (some (.ref a22)))
    (l_22 : K.lookup a22 = some ⟨oc22, od22, .func (PySem.W.fnOf "_law_answered" "_law_answered" (defArgs s__law_answered) (defBody s__law_answered) (defScope s__law_answered) .none kV22 dc22 pm22 an22 cd22 ct22), sl22⟩)
    (g_22 : PySem.W.codeIn K cd22 "_law_answered" = true)
    (k_22 : PySem.W.keepIn K (.ref a22) = true)
    (a_23 : PySem.W.nsIn K mainGlobals "_law_odd" = some (some (.ref a23)))
    (l_23 : K.lookup a23 = some ⟨oc23, od23, .func (PySem.W.fnOf "_law_odd" "_law_odd" (defArgs s__law_odd) (defBody s__law_odd) (defScope s__law_odd) .none kV23 dc23 pm23 an23 cd23 ct23), sl23⟩)
    (g_23 : PySem.W.codeIn K cd23 "_law_odd" = true)
    (k_23 : PySem.W.keepIn K (.ref a23) = true)
    (a_24 : PySem.W.nsIn K mainGlobals "_law_judged" = some (some (.ref a24)))
    (l_24 : K.lookup a24 = some ⟨oc24, od24, .func (PySem.W.fnOf "_law_judged" "_law_judged" (defArgs s__law_judged) (defBody s__law_judged) (defScope s__law_judged) .none kV24 dc24 pm24 an24 cd24 ct24), sl24⟩)
    (g_24 : PySem.W.codeIn K cd24 "_law_judged" = true)
    (k_24 : PySem.W.keepIn K (.ref a24) = true)
    (a_25 : PySem.W.nsIn K mainGlobals "_law_refused" = some (some (.ref a25)))
    (l_25 : K.lookup a25 = some ⟨oc25, od25, .func (PySem.W.fnOf "_law_refused" "_law_refused" (defArgs s__law_refused) (defBody s__law_refused) (defScope s__law_refused) .none kV25 dc25 pm25 an25 cd25 ct25), sl25⟩)
    (g_25 : PySem.W.codeIn K cd25 "_law_refused" = true)
    (k_25 : PySem.W.keepIn K (.ref a25) = true)
    (a_26 : PySem.W.nsIn K mainGlobals "_law_all" = some (some (.ref a26)))
    (l_26 : K.lookup a26 = some ⟨oc26, od26, .func (PySem.W.fnOf "_law_all" "_law_all" (defArgs s__law_all) (defBody s__law_all) (defScope s__law_all) .none kV26 dc26 pm26 an26 cd26 ct26), sl26⟩)
    (g_26 : PySem.W.codeIn K cd26 "_law_all" = true)
    (k_26 : PySem.W.keepIn K (.ref a26) = true)
    (a_27 : PySem.W.nsIn K mainGlobals "law" = some (some (.ref a27)))
    (l_27 : K.lookup a27 = some ⟨oc27, od27, .func (PySem.W.fnOf "law" "law" (defArgs s_law) (defBody s_law) (defScope s_law) .none kV27 dc27 pm27 an27 cd27 ct27), sl27⟩)
    (g_27 : PySem.W.codeIn K cd27 "law" = true)
    (k_27 : PySem.W.keepIn K (.ref a27) = true)
    (x0_a : PySem.W.nsIn K mainGlobals "NormalError" = some (some (.ref c0)))
    (x0_e : PySem.W.subIn K (.ref c0) (.type "BaseException") = some true)
    (x0_h : PySem.W.hasDictIn K c0 = true)
    (x0_t : PySem.W.typeIn K (.ref c0) = some (.type "type"))
    (x1_a : PySem.W.nsIn K mainGlobals "InvalidNumber" = some (some (.ref c1)))
    (x1_e : PySem.W.subIn K (.ref c1) (.type "BaseException") = some true)
    (x1_h : PySem.W.hasDictIn K c1 = true)
    (x1_t : PySem.W.typeIn K (.ref c1) = some (.type "type"))
    (x1_l : K.lookup c1 = some (excClassObj nm1 qu1 c1 NN1 bs1 bm1 true sn1 sb1 ab1 co1 dd1 ka1 kb1 kc1 kd1 ke1 "ValueError.__new__"))
    (x1_r : PySem.HandSPX.refsVE bm1 = true)
    (x1_s : PySem.W.findIn K (.ref c1) "__setattr__" = some (some (.builtin "object.__setattr__")))
    (x1_k : PySem.W.keepIn K (.ref c1) = true)
    (a_28 : PySem.W.findIn K (.ref c1) "__init__" = some (some (.ref a28)))
    (l_28 : K.lookup a28 = some ⟨oc28, od28, .func (PySem.W.fnOf "__init__" "InvalidNumber.__init__" (defArgs s_i_InvalidNumber) (defBody s_i_InvalidNumber) (defScope s_i_InvalidNumber) .none kV28 dc28 pm28 an28 cd28 ct28), sl28⟩)
    (g_28 : PySem.W.codeIn K cd28 "InvalidNumber.__init__" = true)
    (k_28 : PySem.W.keepIn K (.ref a28) = true)
    (x1_i : PySem.W.typeIn K (.ref a28) = some (.type "function"))
    (x1_f0 : PySem.W.findIn K (.ref c1) "value" = some none)
    (x1_ga : PySem.W.findIn K (.ref c1) "__getattribute__" = some (some (.builtin "BaseException.__getattribute__")))
    (x1_gg : PySem.W.findIn K (.ref c1) "__getattr__" = some none)
    (x2_a : PySem.W.nsIn K mainGlobals "InvalidWord" = some (some (.ref c2)))
    (x2_e : PySem.W.subIn K (.ref c2) (.type "BaseException") = some true)
    (x2_h : PySem.W.hasDictIn K c2 = true)
    (x2_t : PySem.W.typeIn K (.ref c2) = some (.type "type"))
    (x2_f0 : PySem.W.findIn K (.ref c2) "value" = some none)
    (x2_ga : PySem.W.findIn K (.ref c2) "__getattribute__" = some (some (.builtin "BaseException.__getattribute__")))
    (x2_gg : PySem.W.findIn K (.ref c2) "__getattr__" = some none)
    (x3_a : PySem.W.nsIn K mainGlobals "InvalidPolynomial" = some (some (.ref c3)))
    (x3_e : PySem.W.subIn K (.ref c3) (.type "BaseException") = some true)
    (x3_h : PySem.W.hasDictIn K c3 = true)
    (x3_t : PySem.W.typeIn K (.ref c3) = some (.type "type"))
    (x3_l : K.lookup c3 = some (excClassObj nm3 qu3 c3 NN3 bs3 bm3 true sn3 sb3 ab3 co3 dd3 ka3 kb3 kc3 kd3 ke3 "ValueError.__new__"))
    (x3_r : PySem.HandSPX.refsVE bm3 = true)
    (x3_s : PySem.W.findIn K (.ref c3) "__setattr__" = some (some (.builtin "object.__setattr__")))
    (x3_k : PySem.W.keepIn K (.ref c3) = true)
    (a_29 : PySem.W.findIn K (.ref c3) "__init__" = some (some (.ref a29)))
    (l_29 : K.lookup a29 = some ⟨oc29, od29, .func (PySem.W.fnOf "__init__" "InvalidPolynomial.__init__" (defArgs s_i_InvalidPolynomial) (defBody s_i_InvalidPolynomial) (defScope s_i_InvalidPolynomial) .none kV29 dc29 pm29 an29 cd29 ct29), sl29⟩)
    (g_29 : PySem.W.codeIn K cd29 "InvalidPolynomial.__init__" = true)
    (k_29 : PySem.W.keepIn K (.ref a29) = true)
    (x3_i : PySem.W.typeIn K (.ref a29) = some (.type "function"))
    (x3_f0 : PySem.W.findIn K (.ref c3) "value" = some none)
    (x3_ga : PySem.W.findIn K (.ref c3) "__getattribute__" = some (some (.builtin "BaseException.__getattribute__")))
    (x3_gg : PySem.W.findIn K (.ref c3) "__getattr__" = some none)
    (x4_a : PySem.W.nsIn K mainGlobals "InvalidRows" = some (some (.ref c4)))
    (x4_e : PySem.W.subIn K (.ref c4) (.type "BaseException") = some true)
    (x4_h : PySem.W.hasDictIn K c4 = true)
    (x4_t : PySem.W.typeIn K (.ref c4) = some (.type "type"))
    (x4_f0 : PySem.W.findIn K (.ref c4) "value" = some none)
    (x4_ga : PySem.W.findIn K (.ref c4) "__getattribute__" = some (some (.builtin "BaseException.__getattribute__")))
    (x4_gg : PySem.W.findIn K (.ref c4) "__getattr__" = some none)
    (x5_a : PySem.W.nsIn K mainGlobals "Undefined" = some (some (.ref c5)))
    (x5_e : PySem.W.subIn K (.ref c5) (.type "BaseException") = some true)
    (x5_h : PySem.W.hasDictIn K c5 = true)
    (x5_t : PySem.W.typeIn K (.ref c5) = some (.type "type"))
    (x5_f0 : PySem.W.findIn K (.ref c5) "what" = some none)
    (x5_ga : PySem.W.findIn K (.ref c5) "__getattribute__" = some (some (.builtin "BaseException.__getattribute__")))
    (x5_gg : PySem.W.findIn K (.ref c5) "__getattr__" = some none)
    (r_0 : PySem.W.subIn K (.ref c0) (.ref c0) = some true)
    (r_1 : PySem.W.subIn K (.ref c1) (.ref c1) = some true)
    (x1_cl : PySem.W.findIn K (.ref c1) "__class__" = some (some (.builtin "object.__class__")))
    (x1_mo : PySem.W.mroIn K c1 (.type "object") = some true)
    (s_1_ValueError : PySem.W.subIn K (.ref c1) (.type "ValueError") = some true)
    (r_2 : PySem.W.subIn K (.ref c2) (.ref c2) = some true)
    (x2_cl : PySem.W.findIn K (.ref c2) "__class__" = some (some (.builtin "object.__class__")))
    (x2_mo : PySem.W.mroIn K c2 (.type "object") = some true)
    (s_2_ValueError : PySem.W.subIn K (.ref c2) (.type "ValueError") = some true)
    (x3_cl : PySem.W.findIn K (.ref c3) "__class__" = some (some (.builtin "object.__class__")))
    (x3_mo : PySem.W.mroIn K c3 (.type "object") = some true)
    (s_3_ValueError : PySem.W.subIn K (.ref c3) (.type "ValueError") = some true)
    (r_4 : PySem.W.subIn K (.ref c4) (.ref c4) = some true)
    (x4_cl : PySem.W.findIn K (.ref c4) "__class__" = some (some (.builtin "object.__class__")))
    (x4_mo : PySem.W.mroIn K c4 (.type "object") = some true)
    (s_4_ValueError : PySem.W.subIn K (.ref c4) (.type "ValueError") = some true)
    (r_5 : PySem.W.subIn K (.ref c5) (.ref c5) = some true)
    (x5_cl : PySem.W.findIn K (.ref c5) "__class__" = some (some (.builtin "object.__class__")))
    (x5_mo : PySem.W.mroIn K c5 (.type "object") = some true)
    (s_5_ValueError : PySem.W.subIn K (.ref c5) (.type "ValueError") = some true)
    (g_sp : PySem.W.specialIn K (.builtin "object.__class__") "__get__" = some (some (.builtin "getset_descriptor.__get__")))
    (g_tk : PySem.W.takesIn K (.builtin "object.__class__") = some true)
    (s_1_0 : PySem.W.subIn K (.ref c1) (.ref c0) = some true)
    (s_2_0 : PySem.W.subIn K (.ref c2) (.ref c0) = some true)
    (s_3_0 : PySem.W.subIn K (.ref c3) (.ref c0) = some true)
    (s_4_0 : PySem.W.subIn K (.ref c4) (.ref c0) = some true)
    (s_5_0 : PySem.W.subIn K (.ref c5) (.ref c0) = some true)
    (s_1_1 : PySem.W.subIn K (.ref c1) (.ref c1) = some true)
    (s_2_1 : PySem.W.subIn K (.ref c2) (.ref c1) = some false)
    (s_3_1 : PySem.W.subIn K (.ref c3) (.ref c1) = some false)
    (s_4_1 : PySem.W.subIn K (.ref c4) (.ref c1) = some false)
    (s_5_1 : PySem.W.subIn K (.ref c5) (.ref c1) = some false)
    (s_1_2 : PySem.W.subIn K (.ref c1) (.ref c2) = some false)
    (s_2_2 : PySem.W.subIn K (.ref c2) (.ref c2) = some true)
    (s_3_2 : PySem.W.subIn K (.ref c3) (.ref c2) = some false)
    (s_4_2 : PySem.W.subIn K (.ref c4) (.ref c2) = some false)
    (s_5_2 : PySem.W.subIn K (.ref c5) (.ref c2) = some false)
    (s_1_3 : PySem.W.subIn K (.ref c1) (.ref c3) = some false)
    (s_2_3 : PySem.W.subIn K (.ref c2) (.ref c3) = some false)
    (s_3_3 : PySem.W.subIn K (.ref c3) (.ref c3) = some true)
    (s_4_3 : PySem.W.subIn K (.ref c4) (.ref c3) = some false)
    (s_5_3 : PySem.W.subIn K (.ref c5) (.ref c3) = some false)
    (s_1_4 : PySem.W.subIn K (.ref c1) (.ref c4) = some false)
    (s_2_4 : PySem.W.subIn K (.ref c2) (.ref c4) = some false)
    (s_3_4 : PySem.W.subIn K (.ref c3) (.ref c4) = some false)
    (s_4_4 : PySem.W.subIn K (.ref c4) (.ref c4) = some true)
    (s_5_4 : PySem.W.subIn K (.ref c5) (.ref c4) = some false)
    (s_1_5 : PySem.W.subIn K (.ref c1) (.ref c5) = some false)
    (s_2_5 : PySem.W.subIn K (.ref c2) (.ref c5) = some false)
    (s_3_5 : PySem.W.subIn K (.ref c3) (.ref c5) = some false)
    (s_4_5 : PySem.W.subIn K (.ref c4) (.ref c5) = some false)
    (s_5_5 : PySem.W.subIn K (.ref c5) (.ref c5) = some true)
    (z_ValueError : PySem.W.nsIn K mainGlobals "ValueError" = some none)
    (z_abs : PySem.W.nsIn K mainGlobals "abs" = some none)
    (z_bool : PySem.W.nsIn K mainGlobals "bool" = some none)
    (z_enumerate : PySem.W.nsIn K mainGlobals "enumerate" = some none)
    (z_int : PySem.W.nsIn K mainGlobals "int" = some none)
    (z_isinstance : PySem.W.nsIn K mainGlobals "isinstance" = some none)
    (z_len : PySem.W.nsIn K mainGlobals "len" = some none)
    (z_list : PySem.W.nsIn K mainGlobals "list" = some none)
    (z_max : PySem.W.nsIn K mainGlobals "max" = some none)
    (z_range : PySem.W.nsIn K mainGlobals "range" = some none)
    (z_repr : PySem.W.nsIn K mainGlobals "repr" = some none)
    (z_str : PySem.W.nsIn K mainGlobals "str" = some none)
    (z_tuple : PySem.W.nsIn K mainGlobals "tuple" = some none)
    : ∃ (fd : FuncData) (T : Tb), T.K = K ∧ (∀ (s : Shared) (v : Value), BindsTo s fd ⟨[v], []⟩ [("script", v)]) ∧ ∀ base : Heap, K.In base → base.Ns mainGlobals mg → FnG P w K mg base 12 fa fd ["script"] (spF T 1 false F_law) := by
  cases (PySem.W.mg_of X G a_27).symm.trans hfa
  have F0 := fun_mk (st := s_trimmed) l_0 g_0 k_0
  have F1 := fun_mk (st := s_is_integer) l_1 g_1 k_1
  have F2 := fun_mk (st := s_is_polynomial) l_2 g_2 k_2
  have F3 := fun_mk (st := s_look_at_polynomials) l_3 g_3 k_3
  have F4 := fun_mk (st := s_negative) l_4 g_4 k_4
  have F5 := fun_mk (st := s_sum_of) l_5 g_5 k_5
  have F6 := fun_mk (st := s_product_of) l_6 g_6 k_6
  have F7 := fun_mk (st := s_plus) l_7 g_7 k_7
  have F8 := fun_mk (st := s_less) l_8 g_8 k_8
  have F9 := fun_mk (st := s_times) l_9 g_9 k_9
  have F10 := fun_mk (st := s_value_at) l_10 g_10 k_10
  have F11 := fun_mk (st := s__law_deck) l_11 g_11 k_11
  have F12 := fun_mk (st := s__law_draw) l_12 g_12 k_12
  have F13 := fun_mk (st := s__law_same) l_13 g_13 k_13
  have F14 := fun_mk (st := s__law_trim) l_14 g_14 k_14
  have F15 := fun_mk (st := s__law_plus) l_15 g_15 k_15
  have F16 := fun_mk (st := s__law_times) l_16 g_16 k_16
  have F17 := fun_mk (st := s__law_figures) l_17 g_17 k_17
  have F18 := fun_mk (st := s__law_drawn) l_18 g_18 k_18
  have F19 := fun_mk (st := s__law_kin) l_19 g_19 k_19
  have F20 := fun_mk (st := s__law_told) l_20 g_20 k_20
  have F21 := fun_mk (st := s__law_value) l_21 g_21 k_21
  have F22 := fun_mk (st := s__law_answered) l_22 g_22 k_22
  have F23 := fun_mk (st := s__law_odd) l_23 g_23 k_23
  have F24 := fun_mk (st := s__law_judged) l_24 g_24 k_24
  have F25 := fun_mk (st := s__law_refused) l_25 g_25 k_25
  have F26 := fun_mk (st := s__law_all) l_26 g_26 k_26
  have F27 := fun_mk (st := s_law) l_27 g_27 k_27
  have F28 := fun_mk (st := s_i_InvalidNumber) l_28 g_28 k_28
  have F29 := fun_mk (st := s_i_InvalidPolynomial) l_29 g_29 k_29
  have ⟨C, eC0, eC1, eC2, eC3, eC4, eC5⟩ : ∃ g : Nat → Addr, g 0 = c0 ∧ g 1 = c1 ∧ g 2 = c2 ∧ g 3 = c3 ∧ g 4 = c4 ∧ g 5 = c5 :=
    ⟨fun n => match n with | 0 => c0 | 1 => c1 | 2 => c2 | 3 => c3 | 4 => c4 | 5 => c5 | _ => c0, rfl, rfl, rfl, rfl, rfl, rfl⟩
  have ⟨f, eF0, eF1, eF2, eF3, eF4, eF5, eF6, eF7, eF8, eF9, eF10, eF11, eF12, eF13, eF14, eF15, eF16, eF17, eF18, eF19, eF20, eF21, eF22, eF23, eF24, eF25, eF26, eF27, eF28, eF29⟩ : ∃ g : Nat → Addr, g 0 = a0 ∧ g 1 = a1 ∧ g 2 = a2 ∧ g 3 = a3 ∧ g 4 = a4 ∧ g 5 = a5 ∧ g 6 = a6 ∧ g 7 = a7 ∧ g 8 = a8 ∧ g 9 = a9 ∧ g 10 = a10 ∧ g 11 = a11 ∧ g 12 = a12 ∧ g 13 = a13 ∧ g 14 = a14 ∧ g 15 = a15 ∧ g 16 = a16 ∧ g 17 = a17 ∧ g 18 = a18 ∧ g 19 = a19 ∧ g 20 = a20 ∧ g 21 = a21 ∧ g 22 = a22 ∧ g 23 = a23 ∧ g 24 = a24 ∧ g 25 = a25 ∧ g 26 = a26 ∧ g 27 = fa ∧ g 28 = a28 ∧ g 29 = a29 :=
    ⟨fun n => match n with | 0 => a0 | 1 => a1 | 2 => a2 | 3 => a3 | 4 => a4 | 5 => a5 | 6 => a6 | 7 => a7 | 8 => a8 | 9 => a9 | 10 => a10 | 11 => a11 | 12 => a12 | 13 => a13 | 14 => a14 | 15 => a15 | 16 => a16 | 17 => a17 | 18 => a18 | 19 => a19 | 20 => a20 | 21 => a21 | 22 => a22 | 23 => a23 | 24 => a24 | 25 => a25 | 26 => a26 | 27 => fa | 28 => a28 | 29 => a29 | _ => a0, rfl, rfl, rfl, rfl, rfl, rfl, rfl, rfl, rfl, rfl, rfl, rfl, rfl, rfl, rfl, rfl, rfl, rfl, rfl, rfl, rfl, rfl, rfl, rfl, rfl, rfl, rfl, rfl, rfl, rfl⟩
  have ⟨fd, eD0, eD1, eD2, eD3, eD4, eD5, eD6, eD7, eD8, eD9, eD10, eD11, eD12, eD13, eD14, eD15, eD16, eD17, eD18, eD19, eD20, eD21, eD22, eD23, eD24, eD25, eD26, eD27, eD28, eD29⟩ : ∃ g : Nat → FuncData, g 0 = PySem.W.fnOf "trimmed" "trimmed" (defArgs s_trimmed) (defBody s_trimmed) (defScope s_trimmed) .none kV0 dc0 pm0 an0 cd0 ct0 ∧ g 1 = PySem.W.fnOf "is_integer" "is_integer" (defArgs s_is_integer) (defBody s_is_integer) (defScope s_is_integer) .none kV1 dc1 pm1 an1 cd1 ct1 ∧ g 2 = PySem.W.fnOf "is_polynomial" "is_polynomial" (defArgs s_is_polynomial) (defBody s_is_polynomial) (defScope s_is_polynomial) .none kV2 dc2 pm2 an2 cd2 ct2 ∧ g 3 = PySem.W.fnOf "look_at_polynomials" "look_at_polynomials" (defArgs s_look_at_polynomials) (defBody s_look_at_polynomials) (defScope s_look_at_polynomials) .none kV3 dc3 pm3 an3 cd3 ct3 ∧ g 4 = PySem.W.fnOf "negative" "negative" (defArgs s_negative) (defBody s_negative) (defScope s_negative) .none kV4 dc4 pm4 an4 cd4 ct4 ∧ g 5 = PySem.W.fnOf "sum_of" "sum_of" (defArgs s_sum_of) (defBody s_sum_of) (defScope s_sum_of) .none kV5 dc5 pm5 an5 cd5 ct5 ∧ g 6 = PySem.W.fnOf "product_of" "product_of" (defArgs s_product_of) (defBody s_product_of) (defScope s_product_of) .none kV6 dc6 pm6 an6 cd6 ct6 ∧ g 7 = PySem.W.fnOf "plus" "plus" (defArgs s_plus) (defBody s_plus) (defScope s_plus) .none kV7 dc7 pm7 an7 cd7 ct7 ∧ g 8 = PySem.W.fnOf "less" "less" (defArgs s_less) (defBody s_less) (defScope s_less) .none kV8 dc8 pm8 an8 cd8 ct8 ∧ g 9 = PySem.W.fnOf "times" "times" (defArgs s_times) (defBody s_times) (defScope s_times) .none kV9 dc9 pm9 an9 cd9 ct9 ∧ g 10 = PySem.W.fnOf "value_at" "value_at" (defArgs s_value_at) (defBody s_value_at) (defScope s_value_at) .none kV10 dc10 pm10 an10 cd10 ct10 ∧ g 11 = PySem.W.fnOf "_law_deck" "_law_deck" (defArgs s__law_deck) (defBody s__law_deck) (defScope s__law_deck) .none kV11 dc11 pm11 an11 cd11 ct11 ∧ g 12 = PySem.W.fnOf "_law_draw" "_law_draw" (defArgs s__law_draw) (defBody s__law_draw) (defScope s__law_draw) .none kV12 dc12 pm12 an12 cd12 ct12 ∧ g 13 = PySem.W.fnOf "_law_same" "_law_same" (defArgs s__law_same) (defBody s__law_same) (defScope s__law_same) .none kV13 dc13 pm13 an13 cd13 ct13 ∧ g 14 = PySem.W.fnOf "_law_trim" "_law_trim" (defArgs s__law_trim) (defBody s__law_trim) (defScope s__law_trim) .none kV14 dc14 pm14 an14 cd14 ct14 ∧ g 15 = PySem.W.fnOf "_law_plus" "_law_plus" (defArgs s__law_plus) (defBody s__law_plus) (defScope s__law_plus) .none kV15 dc15 pm15 an15 cd15 ct15 ∧ g 16 = PySem.W.fnOf "_law_times" "_law_times" (defArgs s__law_times) (defBody s__law_times) (defScope s__law_times) .none kV16 dc16 pm16 an16 cd16 ct16 ∧ g 17 = PySem.W.fnOf "_law_figures" "_law_figures" (defArgs s__law_figures) (defBody s__law_figures) (defScope s__law_figures) .none kV17 dc17 pm17 an17 cd17 ct17 ∧ g 18 = PySem.W.fnOf "_law_drawn" "_law_drawn" (defArgs s__law_drawn) (defBody s__law_drawn) (defScope s__law_drawn) .none kV18 dc18 pm18 an18 cd18 ct18 ∧ g 19 = PySem.W.fnOf "_law_kin" "_law_kin" (defArgs s__law_kin) (defBody s__law_kin) (defScope s__law_kin) .none kV19 dc19 pm19 an19 cd19 ct19 ∧ g 20 = PySem.W.fnOf "_law_told" "_law_told" (defArgs s__law_told) (defBody s__law_told) (defScope s__law_told) .none kV20 dc20 pm20 an20 cd20 ct20 ∧ g 21 = PySem.W.fnOf "_law_value" "_law_value" (defArgs s__law_value) (defBody s__law_value) (defScope s__law_value) .none kV21 dc21 pm21 an21 cd21 ct21 ∧ g 22 = PySem.W.fnOf "_law_answered" "_law_answered" (defArgs s__law_answered) (defBody s__law_answered) (defScope s__law_answered) .none kV22 dc22 pm22 an22 cd22 ct22 ∧ g 23 = PySem.W.fnOf "_law_odd" "_law_odd" (defArgs s__law_odd) (defBody s__law_odd) (defScope s__law_odd) .none kV23 dc23 pm23 an23 cd23 ct23 ∧ g 24 = PySem.W.fnOf "_law_judged" "_law_judged" (defArgs s__law_judged) (defBody s__law_judged) (defScope s__law_judged) .none kV24 dc24 pm24 an24 cd24 ct24 ∧ g 25 = PySem.W.fnOf "_law_refused" "_law_refused" (defArgs s__law_refused) (defBody s__law_refused) (defScope s__law_refused) .none kV25 dc25 pm25 an25 cd25 ct25 ∧ g 26 = PySem.W.fnOf "_law_all" "_law_all" (defArgs s__law_all) (defBody s__law_all) (defScope s__law_all) .none kV26 dc26 pm26 an26 cd26 ct26 ∧ g 27 = PySem.W.fnOf "law" "law" (defArgs s_law) (defBody s_law) (defScope s_law) .none kV27 dc27 pm27 an27 cd27 ct27 ∧ g 28 = PySem.W.fnOf "__init__" "InvalidNumber.__init__" (defArgs s_i_InvalidNumber) (defBody s_i_InvalidNumber) (defScope s_i_InvalidNumber) .none kV28 dc28 pm28 an28 cd28 ct28 ∧ g 29 = PySem.W.fnOf "__init__" "InvalidPolynomial.__init__" (defArgs s_i_InvalidPolynomial) (defBody s_i_InvalidPolynomial) (defScope s_i_InvalidPolynomial) .none kV29 dc29 pm29 an29 cd29 ct29 :=
    ⟨fun n => match n with | 0 => PySem.W.fnOf "trimmed" "trimmed" (defArgs s_trimmed) (defBody s_trimmed) (defScope s_trimmed) .none kV0 dc0 pm0 an0 cd0 ct0 | 1 => PySem.W.fnOf "is_integer" "is_integer" (defArgs s_is_integer) (defBody s_is_integer) (defScope s_is_integer) .none kV1 dc1 pm1 an1 cd1 ct1 | 2 => PySem.W.fnOf "is_polynomial" "is_polynomial" (defArgs s_is_polynomial) (defBody s_is_polynomial) (defScope s_is_polynomial) .none kV2 dc2 pm2 an2 cd2 ct2 | 3 => PySem.W.fnOf "look_at_polynomials" "look_at_polynomials" (defArgs s_look_at_polynomials) (defBody s_look_at_polynomials) (defScope s_look_at_polynomials) .none kV3 dc3 pm3 an3 cd3 ct3 | 4 => PySem.W.fnOf "negative" "negative" (defArgs s_negative) (defBody s_negative) (defScope s_negative) .none kV4 dc4 pm4 an4 cd4 ct4 | 5 => PySem.W.fnOf "sum_of" "sum_of" (defArgs s_sum_of) (defBody s_sum_of) (defScope s_sum_of) .none kV5 dc5 pm5 an5 cd5 ct5 | 6 => PySem.W.fnOf "product_of" "product_of" (defArgs s_product_of) (defBody s_product_of) (defScope s_product_of) .none kV6 dc6 pm6 an6 cd6 ct6 | 7 => PySem.W.fnOf "plus" "plus" (defArgs s_plus) (defBody s_plus) (defScope s_plus) .none kV7 dc7 pm7 an7 cd7 ct7 | 8 => PySem.W.fnOf "less" "less" (defArgs s_less) (defBody s_less) (defScope s_less) .none kV8 dc8 pm8 an8 cd8 ct8 | 9 => PySem.W.fnOf "times" "times" (defArgs s_times) (defBody s_times) (defScope s_times) .none kV9 dc9 pm9 an9 cd9 ct9 | 10 => PySem.W.fnOf "value_at" "value_at" (defArgs s_value_at) (defBody s_value_at) (defScope s_value_at) .none kV10 dc10 pm10 an10 cd10 ct10 | 11 => PySem.W.fnOf "_law_deck" "_law_deck" (defArgs s__law_deck) (defBody s__law_deck) (defScope s__law_deck) .none kV11 dc11 pm11 an11 cd11 ct11 | 12 => PySem.W.fnOf "_law_draw" "_law_draw" (defArgs s__law_draw) (defBody s__law_draw) (defScope s__law_draw) .none kV12 dc12 pm12 an12 cd12 ct12 | 13 => PySem.W.fnOf "_law_same" "_law_same" (defArgs s__law_same) (defBody s__law_same) (defScope s__law_same) .none kV13 dc13 pm13 an13 cd13 ct13 | 14 => PySem.W.fnOf "_law_trim" "_law_trim" (defArgs s__law_trim) (defBody s__law_trim) (defScope s__law_trim) .none kV14 dc14 pm14 an14 cd14 ct14 | 15 => PySem.W.fnOf "_law_plus" "_law_plus" (defArgs s__law_plus) (defBody s__law_plus) (defScope s__law_plus) .none kV15 dc15 pm15 an15 cd15 ct15 | 16 => PySem.W.fnOf "_law_times" "_law_times" (defArgs s__law_times) (defBody s__law_times) (defScope s__law_times) .none kV16 dc16 pm16 an16 cd16 ct16 | 17 => PySem.W.fnOf "_law_figures" "_law_figures" (defArgs s__law_figures) (defBody s__law_figures) (defScope s__law_figures) .none kV17 dc17 pm17 an17 cd17 ct17 | 18 => PySem.W.fnOf "_law_drawn" "_law_drawn" (defArgs s__law_drawn) (defBody s__law_drawn) (defScope s__law_drawn) .none kV18 dc18 pm18 an18 cd18 ct18 | 19 => PySem.W.fnOf "_law_kin" "_law_kin" (defArgs s__law_kin) (defBody s__law_kin) (defScope s__law_kin) .none kV19 dc19 pm19 an19 cd19 ct19 | 20 => PySem.W.fnOf "_law_told" "_law_told" (defArgs s__law_told) (defBody s__law_told) (defScope s__law_told) .none kV20 dc20 pm20 an20 cd20 ct20 | 21 => PySem.W.fnOf "_law_value" "_law_value" (defArgs s__law_value) (defBody s__law_value) (defScope s__law_value) .none kV21 dc21 pm21 an21 cd21 ct21 | 22 => PySem.W.fnOf "_law_answered" "_law_answered" (defArgs s__law_answered) (defBody s__law_answered) (defScope s__law_answered) .none kV22 dc22 pm22 an22 cd22 ct22 | 23 => PySem.W.fnOf "_law_odd" "_law_odd" (defArgs s__law_odd) (defBody s__law_odd) (defScope s__law_odd) .none kV23 dc23 pm23 an23 cd23 ct23 | 24 => PySem.W.fnOf "_law_judged" "_law_judged" (defArgs s__law_judged) (defBody s__law_judged) (defScope s__law_judged) .none kV24 dc24 pm24 an24 cd24 ct24 | 25 => PySem.W.fnOf "_law_refused" "_law_refused" (defArgs s__law_refused) (defBody s__law_refused) (defScope s__law_refused) .none kV25 dc25 pm25 an25 cd25 ct25 | 26 => PySem.W.fnOf "_law_all" "_law_all" (defArgs s__law_all) (defBody s__law_all) (defScope s__law_all) .none kV26 dc26 pm26 an26 cd26 ct26 | 27 => PySem.W.fnOf "law" "law" (defArgs s_law) (defBody s_law) (defScope s_law) .none kV27 dc27 pm27 an27 cd27 ct27 | 28 => PySem.W.fnOf "__init__" "InvalidNumber.__init__" (defArgs s_i_InvalidNumber) (defBody s_i_InvalidNumber) (defScope s_i_InvalidNumber) .none kV28 dc28 pm28 an28 cd28 ct28 | 29 => PySem.W.fnOf "__init__" "InvalidPolynomial.__init__" (defArgs s_i_InvalidPolynomial) (defBody s_i_InvalidPolynomial) (defScope s_i_InvalidPolynomial) .none kV29 dc29 pm29 an29 cd29 ct29 | _ => PySem.W.fnOf "trimmed" "trimmed" (defArgs s_trimmed) (defBody s_trimmed) (defScope s_trimmed) .none kV0 dc0 pm0 an0 cd0 ct0, rfl, rfl, rfl, rfl, rfl, rfl, rfl, rfl, rfl, rfl, rfl, rfl, rfl, rfl, rfl, rfl, rfl, rfl, rfl, rfl, rfl, rfl, rfl, rfl, rfl, rfl, rfl, rfl, rfl, rfl⟩
  have T : ∀ base, Tx P w K mg base C f fd := fun base => {
    p_trimmed := by rw [eF0, eD0]; exact F0
    b_trimmed := by rw [eD0]; exact F0.binds (ps := ["members"]) fun _ _ _ _ _ _ us hl => match us, hl with | [_], _ => rfl
    m_trimmed := by rw [eF0]; exact PySem.W.mg_of X G a_0
    p_is_integer := by rw [eF1, eD1]; exact F1
    b_is_integer := by rw [eD1]; exact F1.binds (ps := ["value"]) fun _ _ _ _ _ _ us hl => match us, hl with | [_], _ => rfl
    m_is_integer := by rw [eF1]; exact PySem.W.mg_of X G a_1
    p_is_polynomial := by rw [eF2, eD2]; exact F2
    b_is_polynomial := by rw [eD2]; exact F2.binds (ps := ["value"]) fun _ _ _ _ _ _ us hl => match us, hl with | [_], _ => rfl
    m_is_polynomial := by rw [eF2]; exact PySem.W.mg_of X G a_2
    p_look_at_polynomials := by rw [eF3, eD3]; exact F3
    b_look_at_polynomials := by rw [eD3]; exact F3.binds (ps := ["values"]) fun _ _ _ _ _ _ us hl => match us, hl with | [_], _ => rfl
    m_look_at_polynomials := by rw [eF3]; exact PySem.W.mg_of X G a_3
    p_negative := by rw [eF4, eD4]; exact F4
    b_negative := by rw [eD4]; exact F4.binds (ps := ["one"]) fun _ _ _ _ _ _ us hl => match us, hl with | [_], _ => rfl
    m_negative := by rw [eF4]; exact PySem.W.mg_of X G a_4
    p_sum_of := by rw [eF5, eD5]; exact F5
    b_sum_of := by rw [eD5]; exact F5.binds (ps := ["one", "other"]) fun _ _ _ _ _ _ us hl => match us, hl with | [_, _], _ => rfl
    m_sum_of := by rw [eF5]; exact PySem.W.mg_of X G a_5
    p_product_of := by rw [eF6, eD6]; exact F6
    b_product_of := by rw [eD6]; exact F6.binds (ps := ["one", "other"]) fun _ _ _ _ _ _ us hl => match us, hl with | [_, _], _ => rfl
    m_product_of := by rw [eF6]; exact PySem.W.mg_of X G a_6
    p_plus := by rw [eF7, eD7]; exact F7
    b_plus := by rw [eD7]; exact F7.binds (ps := ["one", "other"]) fun _ _ _ _ _ _ us hl => match us, hl with | [_, _], _ => rfl
    m_plus := by rw [eF7]; exact PySem.W.mg_of X G a_7
    p_less := by rw [eF8, eD8]; exact F8
    b_less := by rw [eD8]; exact F8.binds (ps := ["one", "other"]) fun _ _ _ _ _ _ us hl => match us, hl with | [_, _], _ => rfl
    m_less := by rw [eF8]; exact PySem.W.mg_of X G a_8
    p_times := by rw [eF9, eD9]; exact F9
    b_times := by rw [eD9]; exact F9.binds (ps := ["one", "other"]) fun _ _ _ _ _ _ us hl => match us, hl with | [_, _], _ => rfl
    m_times := by rw [eF9]; exact PySem.W.mg_of X G a_9
    p_value_at := by rw [eF10, eD10]; exact F10
    b_value_at := by rw [eD10]; exact F10.binds (ps := ["one", "number"]) fun _ _ _ _ _ _ us hl => match us, hl with | [_, _], _ => rfl
    m_value_at := by rw [eF10]; exact PySem.W.mg_of X G a_10
    p__law_deck := by rw [eF11, eD11]; exact F11
    b__law_deck := by rw [eD11]; exact F11.binds (ps := ["script"]) fun _ _ _ _ _ _ us hl => match us, hl with | [_], _ => rfl
    m__law_deck := by rw [eF11]; exact PySem.W.mg_of X G a_11
    p__law_draw := by rw [eF12, eD12]; exact F12
    b__law_draw := by rw [eD12]; exact F12.binds (ps := ["deck", "many"]) fun _ _ _ _ _ _ us hl => match us, hl with | [_, _], _ => rfl
    m__law_draw := by rw [eF12]; exact PySem.W.mg_of X G a_12
    p__law_same := by rw [eF13, eD13]; exact F13
    b__law_same := by rw [eD13]; exact F13.binds (ps := ["told", "due"]) fun _ _ _ _ _ _ us hl => match us, hl with | [_, _], _ => rfl
    m__law_same := by rw [eF13]; exact PySem.W.mg_of X G a_13
    p__law_trim := by rw [eF14, eD14]; exact F14
    b__law_trim := by rw [eD14]; exact F14.binds (ps := ["row"]) fun _ _ _ _ _ _ us hl => match us, hl with | [_], _ => rfl
    m__law_trim := by rw [eF14]; exact PySem.W.mg_of X G a_14
    p__law_plus := by rw [eF15, eD15]; exact F15
    b__law_plus := by rw [eD15]; exact F15.binds (ps := ["one", "other", "sign"]) fun _ _ _ _ _ _ us hl => match us, hl with | [_, _, _], _ => rfl
    m__law_plus := by rw [eF15]; exact PySem.W.mg_of X G a_15
    p__law_times := by rw [eF16, eD16]; exact F16
    b__law_times := by rw [eD16]; exact F16.binds (ps := ["one", "other"]) fun _ _ _ _ _ _ us hl => match us, hl with | [_, _], _ => rfl
    m__law_times := by rw [eF16]; exact PySem.W.mg_of X G a_16
    p__law_figures := by rw [eF17, eD17]; exact F17
    b__law_figures := by rw [eD17]; exact F17.binds (ps := ["deck", "most"]) fun _ _ _ _ _ _ us hl => match us, hl with | [_, _], _ => rfl
    m__law_figures := by rw [eF17]; exact PySem.W.mg_of X G a_17
    p__law_drawn := by rw [eF18, eD18]; exact F18
    b__law_drawn := by rw [eD18]; exact F18.binds (ps := ["deck", "most", "figures"]) fun _ _ _ _ _ _ us hl => match us, hl with | [_, _, _], _ => rfl
    m__law_drawn := by rw [eF18]; exact PySem.W.mg_of X G a_18
    p__law_kin := by rw [eF19, eD19]; exact F19
    b__law_kin := by rw [eD19]; exact F19.binds (ps := ["deck", "one"]) fun _ _ _ _ _ _ us hl => match us, hl with | [_, _], _ => rfl
    m__law_kin := by rw [eF19]; exact PySem.W.mg_of X G a_19
    p__law_told := by rw [eF20, eD20]; exact F20
    b__law_told := by rw [eD20]; exact F20.binds (ps := ["which", "one", "other", "named"]) fun _ _ _ _ _ _ us hl => match us, hl with | [_, _, _, _], _ => rfl
    m__law_told := by rw [eF20]; exact PySem.W.mg_of X G a_20
    p__law_value := by rw [eF21, eD21]; exact F21
    b__law_value := by rw [eD21]; exact F21.binds (ps := ["one", "number"]) fun _ _ _ _ _ _ us hl => match us, hl with | [_, _], _ => rfl
    m__law_value := by rw [eF21]; exact PySem.W.mg_of X G a_21
    p__law_answered := by rw [eF22, eD22]; exact F22
    b__law_answered := by rw [eD22]; exact F22.binds (ps := ["deck", "one", "other"]) fun _ _ _ _ _ _ us hl => match us, hl with | [_, _, _], _ => rfl
    m__law_answered := by rw [eF22]; exact PySem.W.mg_of X G a_22
    p__law_odd := by rw [eF23, eD23]; exact F23
    b__law_odd := by rw [eD23]; exact F23.binds (ps := ["deck", "one"]) fun _ _ _ _ _ _ us hl => match us, hl with | [_, _], _ => rfl
    m__law_odd := by rw [eF23]; exact PySem.W.mg_of X G a_23
    p__law_judged := by rw [eF24, eD24]; exact F24
    b__law_judged := by rw [eD24]; exact F24.binds (ps := ["deck", "one"]) fun _ _ _ _ _ _ us hl => match us, hl with | [_, _], _ => rfl
    m__law_judged := by rw [eF24]; exact PySem.W.mg_of X G a_24
    p__law_refused := by rw [eF25, eD25]; exact F25
    b__law_refused := by rw [eD25]; exact F25.binds (ps := ["deck", "one"]) fun _ _ _ _ _ _ us hl => match us, hl with | [_, _], _ => rfl
    m__law_refused := by rw [eF25]; exact PySem.W.mg_of X G a_25
    p__law_all := by rw [eF26, eD26]; exact F26
    b__law_all := by rw [eD26]; exact F26.binds (ps := ["script"]) fun _ _ _ _ _ _ us hl => match us, hl with | [_], _ => rfl
    m__law_all := by rw [eF26]; exact PySem.W.mg_of X G a_26
    p_law := by rw [eF27, eD27]; exact F27
    b_law := by rw [eD27]; exact F27.binds (ps := ["script"]) fun _ _ _ _ _ _ us hl => match us, hl with | [_], _ => rfl
    m_law := by rw [eF27]; exact PySem.W.mg_of X G a_27
    kvalue_at_10 := by rw [eD10]; exact fun s ws _ hl => match ws, hl with | [_, _], _ => .of_eq rfl
    kplus_10 := by rw [eD7]; exact fun s ws _ hl => match ws, hl with | [_, _], _ => .of_eq rfl
    kless_10 := by rw [eD8]; exact fun s ws _ hl => match ws, hl with | [_, _], _ => .of_eq rfl
    ktimes_10 := by rw [eD9]; exact fun s ws _ hl => match ws, hl with | [_, _], _ => .of_eq rfl
    kis_polynomial_0 := by rw [eD2]; exact fun s ws _ hl => match ws, hl with | [_], _ => .of_eq rfl
    n_ValueError := PySem.W.mg_none_of X G z_ValueError
    n_abs := PySem.W.mg_none_of X G z_abs
    n_bool := PySem.W.mg_none_of X G z_bool
    n_enumerate := PySem.W.mg_none_of X G z_enumerate
    n_int := PySem.W.mg_none_of X G z_int
    n_isinstance := PySem.W.mg_none_of X G z_isinstance
    n_len := PySem.W.mg_none_of X G z_len
    n_list := PySem.W.mg_none_of X G z_list
    n_max := PySem.W.mg_none_of X G z_max
    n_range := PySem.W.mg_none_of X G z_range
    n_repr := PySem.W.mg_none_of X G z_repr
    n_str := PySem.W.mg_none_of X G z_str
    n_tuple := PySem.W.mg_none_of X G z_tuple
    m_NormalError := by rw [eC0]; exact PySem.W.mg_of X G x0_a
    mT_NormalError := fun c b h => by
      unfold mt_NormalError at h
      split at h
      · cases h; simp only [eC1, eC0]; exact PySem.W.exm_ref x0_e x0_h x0_t s_1_0
      · cases h; simp only [eC2, eC0]; exact PySem.W.exm_ref x0_e x0_h x0_t s_2_0
      · cases h; simp only [eC3, eC0]; exact PySem.W.exm_ref x0_e x0_h x0_t s_3_0
      · cases h; simp only [eC4, eC0]; exact PySem.W.exm_ref x0_e x0_h x0_t s_4_0
      · cases h; simp only [eC5, eC0]; exact PySem.W.exm_ref x0_e x0_h x0_t s_5_0
      · cases h
    m_InvalidNumber := by rw [eC1]; exact PySem.W.mg_of X G x1_a
    o_InvalidNumber := by rw [eC1]; exact ⟨⟨_, _, _, _, _, _, _, _, _, _, _, _, _, _, _, x1_l, x1_r⟩, x1_s, x1_e, x1_t, x1_k⟩
    i_InvalidNumber := by rw [eC1, eF28]; exact a_28
    t_InvalidNumber := by rw [eF28]; exact x1_i
    f_InvalidNumber_0 := by rw [eC1]; exact x1_f0
    q_InvalidNumber := by rw [eF28, eD28]; exact F28
    bi_InvalidNumber := by rw [eD28]; exact F28.binds (ps := ["self", "value"]) fun _ _ _ _ _ _ us hl => match us, hl with | [_, _], _ => rfl
    mT_InvalidNumber := fun c b h => by
      unfold mt_InvalidNumber at h
      split at h
      · cases h; simp only [eC1, eC1]; exact PySem.W.exm_ref x1_e x1_h x1_t s_1_1
      · cases h; simp only [eC2, eC1]; exact PySem.W.exm_ref x1_e x1_h x1_t s_2_1
      · cases h; simp only [eC3, eC1]; exact PySem.W.exm_ref x1_e x1_h x1_t s_3_1
      · cases h; simp only [eC4, eC1]; exact PySem.W.exm_ref x1_e x1_h x1_t s_4_1
      · cases h; simp only [eC5, eC1]; exact PySem.W.exm_ref x1_e x1_h x1_t s_5_1
      · cases h
    xf_InvalidNumber := fun h => by
      rcases mt_InvalidNumber_is h with rfl
      · rw [eC1]; exact ⟨x1_ga, x1_gg, x1_e, x1_h⟩
    no_InvalidNumber_value := fun h => by
      rcases mt_InvalidNumber_is h with rfl
      · rw [eC1]; exact x1_f0
    m_InvalidWord := by rw [eC2]; exact PySem.W.mg_of X G x2_a
    m_InvalidPolynomial := by rw [eC3]; exact PySem.W.mg_of X G x3_a
    o_InvalidPolynomial := by rw [eC3]; exact ⟨⟨_, _, _, _, _, _, _, _, _, _, _, _, _, _, _, x3_l, x3_r⟩, x3_s, x3_e, x3_t, x3_k⟩
    i_InvalidPolynomial := by rw [eC3, eF29]; exact a_29
    t_InvalidPolynomial := by rw [eF29]; exact x3_i
    f_InvalidPolynomial_0 := by rw [eC3]; exact x3_f0
    q_InvalidPolynomial := by rw [eF29, eD29]; exact F29
    bi_InvalidPolynomial := by rw [eD29]; exact F29.binds (ps := ["self", "value"]) fun _ _ _ _ _ _ us hl => match us, hl with | [_, _], _ => rfl
    mT_InvalidPolynomial := fun c b h => by
      unfold mt_InvalidPolynomial at h
      split at h
      · cases h; simp only [eC1, eC3]; exact PySem.W.exm_ref x3_e x3_h x3_t s_1_3
      · cases h; simp only [eC2, eC3]; exact PySem.W.exm_ref x3_e x3_h x3_t s_2_3
      · cases h; simp only [eC3, eC3]; exact PySem.W.exm_ref x3_e x3_h x3_t s_3_3
      · cases h; simp only [eC4, eC3]; exact PySem.W.exm_ref x3_e x3_h x3_t s_4_3
      · cases h; simp only [eC5, eC3]; exact PySem.W.exm_ref x3_e x3_h x3_t s_5_3
      · cases h
    xf_InvalidPolynomial := fun h => by
      rcases mt_InvalidPolynomial_is h with rfl
      · rw [eC3]; exact ⟨x3_ga, x3_gg, x3_e, x3_h⟩
    no_InvalidPolynomial_value := fun h => by
      rcases mt_InvalidPolynomial_is h with rfl
      · rw [eC3]; exact x3_f0
    m_InvalidRows := by rw [eC4]; exact PySem.W.mg_of X G x4_a
    m_Undefined := by rw [eC5]; exact PySem.W.mg_of X G x5_a
    xi_InvalidPolynomial := fun h => by
      rcases mt_InvalidPolynomial_is h with rfl
      · rw [eC3]; exact ⟨x3_ga, x3_gg, x3_e, x3_h, x3_cl, g_sp, g_tk, x3_mo⟩
    kI_InvalidRows := fun c b h => by
      unfold mt_InvalidRows at h
      split at h
      · cases h; simp only [eC1, eC4]; exact kit_own x4_h x4_t r_4 s_1_4
      · cases h; simp only [eC2, eC4]; exact kit_own x4_h x4_t r_4 s_2_4
      · cases h; simp only [eC3, eC4]; exact kit_own x4_h x4_t r_4 s_3_4
      · cases h; simp only [eC4, eC4]; exact kit_own x4_h x4_t r_4 s_4_4
      · cases h; simp only [eC5, eC4]; exact kit_own x4_h x4_t r_4 s_5_4
      · cases h
    kI_InvalidNumber := fun c b h => by
      unfold mt_InvalidNumber at h
      split at h
      · cases h; simp only [eC1, eC1]; exact kit_own x1_h x1_t r_1 s_1_1
      · cases h; simp only [eC2, eC1]; exact kit_own x1_h x1_t r_1 s_2_1
      · cases h; simp only [eC3, eC1]; exact kit_own x1_h x1_t r_1 s_3_1
      · cases h; simp only [eC4, eC1]; exact kit_own x1_h x1_t r_1 s_4_1
      · cases h; simp only [eC5, eC1]; exact kit_own x1_h x1_t r_1 s_5_1
      · cases h
    kI_NormalError := fun c b h => by
      unfold mt_NormalError at h
      split at h
      · cases h; simp only [eC1, eC0]; exact kit_own x0_h x0_t r_0 s_1_0
      · cases h; simp only [eC2, eC0]; exact kit_own x0_h x0_t r_0 s_2_0
      · cases h; simp only [eC3, eC0]; exact kit_own x0_h x0_t r_0 s_3_0
      · cases h; simp only [eC4, eC0]; exact kit_own x0_h x0_t r_0 s_4_0
      · cases h; simp only [eC5, eC0]; exact kit_own x0_h x0_t r_0 s_5_0
      · cases h
    kI_Undefined := fun c b h => by
      unfold mt_Undefined at h
      split at h
      · cases h; simp only [eC1, eC5]; exact kit_own x5_h x5_t r_5 s_1_5
      · cases h; simp only [eC2, eC5]; exact kit_own x5_h x5_t r_5 s_2_5
      · cases h; simp only [eC3, eC5]; exact kit_own x5_h x5_t r_5 s_3_5
      · cases h; simp only [eC4, eC5]; exact kit_own x5_h x5_t r_5 s_4_5
      · cases h; simp only [eC5, eC5]; exact kit_own x5_h x5_t r_5 s_5_5
      · cases h
    kI_InvalidWord := fun c b h => by
      unfold mt_InvalidWord at h
      split at h
      · cases h; simp only [eC1, eC2]; exact kit_own x2_h x2_t r_2 s_1_2
      · cases h; simp only [eC2, eC2]; exact kit_own x2_h x2_t r_2 s_2_2
      · cases h; simp only [eC3, eC2]; exact kit_own x2_h x2_t r_2 s_3_2
      · cases h; simp only [eC4, eC2]; exact kit_own x2_h x2_t r_2 s_4_2
      · cases h; simp only [eC5, eC2]; exact kit_own x2_h x2_t r_2 s_5_2
      · cases h
    kT_ValueError := fun c b h => by
      unfold mtT_ValueError at h
      split at h
      · cases h; simp only [eC1]; exact kit_typ (by decide +kernel) s_1_ValueError
      · cases h; simp only [eC2]; exact kit_typ (by decide +kernel) s_2_ValueError
      · cases h; simp only [eC3]; exact kit_typ (by decide +kernel) s_3_ValueError
      · cases h; simp only [eC4]; exact kit_typ (by decide +kernel) s_4_ValueError
      · cases h; simp only [eC5]; exact kit_typ (by decide +kernel) s_5_ValueError
      · cases h
  }
  have L := fun base => ok_law (T base)
  rw [eF27] at L
  exact ⟨fd 27, tb K C, rfl, fun s v => by rw [eD27]; exact .of_eq rfl, fun base _ _ => L base⟩
end L52
open PySem PySem.W PyProof.Rows
set_option maxRecDepth 100000 in
set_option maxHeartbeats 0 in
theorem PySem.Challenge.cw_normalrealm_k52_polynomials_by_members_holds : PySem.Challenge.rw_normalrealm_k52_polynomials_by_members.Holds := by
  w_on; o_law; k_head; (case hw => w_witness2)
  k_fill
  refine Y.walk (l := PySem.Challenge.rw_normalrealm_k52_polynomials_by_members) (n := 63) (k := 12) (x := "script") (M := L52.F_law) rfl (by decide) rfl ⟨rfl, by decide, by decide⟩ (fun w h Y => PySem.W.kIn_of Y) ?F L52.law_true
  case F =>
    intro w mg fa h KX G hmg
    refine' L52.all_mk KX G hmg ?a_0 ?l_0 ?g_0 ?k_0 ?a_1 ?l_1 ?g_1 ?k_1 ?a_2 ?l_2 ?g_2 ?k_2 ?a_3 ?l_3 ?g_3 ?k_3 ?a_4 ?l_4 ?g_4 ?k_4 ?a_5 ?l_5 ?g_5 ?k_5 ?a_6 ?l_6 ?g_6 ?k_6 ?a_7 ?l_7 ?g_7 ?k_7 ?a_8 ?l_8 ?g_8 ?k_8 ?a_9 ?l_9 ?g_9 ?k_9 ?a_10 ?l_10 ?g_10 ?k_10 ?a_11 ?l_11 ?g_11 ?k_11 ?a_12 ?l_12 ?g_12 ?k_12 ?a_13 ?l_13 ?g_13 ?k_13 ?a_14 ?l_14 ?g_14 ?k_14 ?a_15 ?l_15 ?g_15 ?k_15 ?a_16 ?l_16 ?g_16 ?k_16 ?a_17 ?l_17 ?g_17 ?k_17 ?a_18 ?l_18 ?g_18 ?k_18 ?a_19 ?l_19 ?g_19 ?k_19 ?a_20 ?l_20 ?g_20 ?k_20 ?a_21 ?l_21 ?g_21 ?k_21 ?a_22 ?l_22 ?g_22 ?k_22 ?a_23 ?l_23 ?g_23 ?k_23 ?a_24 ?l_24 ?g_24 ?k_24 ?a_25 ?l_25 ?g_25 ?k_25 ?a_26 ?l_26 ?g_26 ?k_26 ?a_27 ?l_27 ?g_27 ?k_27 ?x0_a ?x0_e ?x0_h ?x0_t ?x1_a ?x1_e ?x1_h ?x1_t ?x1_l ?x1_r ?x1_s ?x1_k ?a_28 ?l_28 ?g_28 ?k_28 ?x1_i ?x1_f0 ?x1_ga ?x1_gg ?x2_a ?x2_e ?x2_h ?x2_t ?x2_f0 ?x2_ga ?x2_gg ?x3_a ?x3_e ?x3_h ?x3_t ?x3_l ?x3_r ?x3_s ?x3_k ?a_29 ?l_29 ?g_29 ?k_29 ?x3_i ?x3_f0 ?x3_ga ?x3_gg ?x4_a ?x4_e ?x4_h ?x4_t ?x4_f0 ?x4_ga ?x4_gg ?x5_a ?x5_e ?x5_h ?x5_t ?x5_f0 ?x5_ga ?x5_gg ?r_0 ?r_1 ?x1_cl ?x1_mo ?s_1_ValueError ?r_2 ?x2_cl ?x2_mo ?s_2_ValueError ?x3_cl ?x3_mo ?s_3_ValueError ?r_4 ?x4_cl ?x4_mo ?s_4_ValueError ?r_5 ?x5_cl ?x5_mo ?s_5_ValueError ?g_sp ?g_tk ?s_1_0 ?s_2_0 ?s_3_0 ?s_4_0 ?s_5_0 ?s_1_1 ?s_2_1 ?s_3_1 ?s_4_1 ?s_5_1 ?s_1_2 ?s_2_2 ?s_3_2 ?s_4_2 ?s_5_2 ?s_1_3 ?s_2_3 ?s_3_3 ?s_4_3 ?s_5_3 ?s_1_4 ?s_2_4 ?s_3_4 ?s_4_4 ?s_5_4 ?s_1_5 ?s_2_5 ?s_3_5 ?s_4_5 ?s_5_5 ?z_ValueError ?z_abs ?z_bool ?z_enumerate ?z_int ?z_isinstance ?z_len ?z_list ?z_max ?z_range ?z_repr ?z_str ?z_tuple
    (case a_0 => k_is)
    (case l_0 => k_is)
    (case g_0 => k_is)
    (case k_0 => k_is)
    (case a_1 => k_is)
    (case l_1 => k_is)
    (case g_1 => k_is)
    (case k_1 => k_is)
    (case a_2 => k_is)
    (case l_2 => k_is)
    (case g_2 => k_is)
    (case k_2 => k_is)
    (case a_3 => k_is)
    (case l_3 => k_is)
    (case g_3 => k_is)
    (case k_3 => k_is)
    (case a_4 => k_is)
    (case l_4 => k_is)
    (case g_4 => k_is)
    (case k_4 => k_is)
    (case a_5 => k_is)
    (case l_5 => k_is)
    (case g_5 => k_is)
    (case k_5 => k_is)
    (case a_6 => k_is)
    (case l_6 => k_is)
    (case g_6 => k_is)
    (case k_6 => k_is)
    (case a_7 => k_is)
    (case l_7 => k_is)
    (case g_7 => k_is)
    (case k_7 => k_is)
    (case a_8 => k_is)
    (case l_8 => k_is)
    (case g_8 => k_is)
    (case k_8 => k_is)
    (case a_9 => k_is)
    (case l_9 => k_is)
    (case g_9 => k_is)
    (case k_9 => k_is)
    (case a_10 => k_is)
    (case l_10 => k_is)
    (case g_10 => k_is)
    (case k_10 => k_is)
    (case a_11 => k_is)
    (case l_11 => k_is)
    (case g_11 => k_is)
    (case k_11 => k_is)
    (case a_12 => k_is)
    (case l_12 => k_is)
    (case g_12 => k_is)
    (case k_12 => k_is)
    (case a_13 => k_is)
    (case l_13 => k_is)
    (case g_13 => k_is)
    (case k_13 => k_is)
    (case a_14 => k_is)
    (case l_14 => k_is)
    (case g_14 => k_is)
    (case k_14 => k_is)
    (case a_15 => k_is)
    (case l_15 => k_is)
    (case g_15 => k_is)
    (case k_15 => k_is)
    (case a_16 => k_is)
    (case l_16 => k_is)
    (case g_16 => k_is)
    (case k_16 => k_is)
    (case a_17 => k_is)
    (case l_17 => k_is)
    (case g_17 => k_is)
    (case k_17 => k_is)
    (case a_18 => k_is)
    (case l_18 => k_is)
    (case g_18 => k_is)
    (case k_18 => k_is)
    (case a_19 => k_is)
    (case l_19 => k_is)
    (case g_19 => k_is)
    (case k_19 => k_is)
    (case a_20 => k_is)
    (case l_20 => k_is)
    (case g_20 => k_is)
    (case k_20 => k_is)
    (case a_21 => k_is)
    (case l_21 => k_is)
    (case g_21 => k_is)
    (case k_21 => k_is)
    (case a_22 => k_is)
    (case l_22 => k_is)
    (case g_22 => k_is)
    (case k_22 => k_is)
    (case a_23 => k_is)
    (case l_23 => k_is)
    (case g_23 => k_is)
    (case k_23 => k_is)
    (case a_24 => k_is)
    (case l_24 => k_is)
    (case g_24 => k_is)
    (case k_24 => k_is)
    (case a_25 => k_is)
    (case l_25 => k_is)
    (case g_25 => k_is)
    (case k_25 => k_is)
    (case a_26 => k_is)
    (case l_26 => k_is)
    (case g_26 => k_is)
    (case k_26 => k_is)
    (case a_27 => k_is)
    (case l_27 => k_is)
    (case g_27 => k_is)
    (case k_27 => k_is)
    (case x0_a => k_is)
    (case x0_e => k_is)
    (case x0_h => k_is)
    (case x0_t => k_is)
    (case x1_a => k_is)
    (case x1_e => k_is)
    (case x1_h => k_is)
    (case x1_t => k_is)
    (case x1_l => k_is)
    (case x1_r => first | rfl | decide +kernel)
    (case x1_s => k_is)
    (case x1_k => k_is)
    (case a_28 => k_is)
    (case l_28 => k_is)
    (case g_28 => k_is)
    (case k_28 => k_is)
    (case x1_i => k_is)
    (case x1_f0 => k_is)
    (case x1_ga => k_is)
    (case x1_gg => k_is)
    (case x2_a => k_is)
    (case x2_e => k_is)
    (case x2_h => k_is)
    (case x2_t => k_is)
    (case x2_f0 => k_is)
    (case x2_ga => k_is)
    (case x2_gg => k_is)
    (case x3_a => k_is)
    (case x3_e => k_is)
    (case x3_h => k_is)
    (case x3_t => k_is)
    (case x3_l => k_is)
    (case x3_r => first | rfl | decide +kernel)
    (case x3_s => k_is)
    (case x3_k => k_is)
    (case a_29 => k_is)
    (case l_29 => k_is)
    (case g_29 => k_is)
    (case k_29 => k_is)
    (case x3_i => k_is)
    (case x3_f0 => k_is)
    (case x3_ga => k_is)
    (case x3_gg => k_is)
    (case x4_a => k_is)
    (case x4_e => k_is)
    (case x4_h => k_is)
    (case x4_t => k_is)
    (case x4_f0 => k_is)
    (case x4_ga => k_is)
    (case x4_gg => k_is)
    (case x5_a => k_is)
    (case x5_e => k_is)
    (case x5_h => k_is)
    (case x5_t => k_is)
    (case x5_f0 => k_is)
    (case x5_ga => k_is)
    (case x5_gg => k_is)
    (case r_0 => first | k_is | rfl)
    (case r_1 => first | k_is | rfl)
    (case x1_cl => k_is)
    (case x1_mo => k_is)
    (case s_1_ValueError => first | k_is | rfl)
    (case r_2 => first | k_is | rfl)
    (case x2_cl => k_is)
    (case x2_mo => k_is)
    (case s_2_ValueError => first | k_is | rfl)
    (case x3_cl => k_is)
    (case x3_mo => k_is)
    (case s_3_ValueError => first | k_is | rfl)
    (case r_4 => first | k_is | rfl)
    (case x4_cl => k_is)
    (case x4_mo => k_is)
    (case s_4_ValueError => first | k_is | rfl)
    (case r_5 => first | k_is | rfl)
    (case x5_cl => k_is)
    (case x5_mo => k_is)
    (case s_5_ValueError => first | k_is | rfl)
    (case g_sp => k_is)
    (case g_tk => k_is)
    (case s_1_0 => first | k_is | rfl)
    (case s_2_0 => first | k_is | rfl)
    (case s_3_0 => first | k_is | rfl)
    (case s_4_0 => first | k_is | rfl)
    (case s_5_0 => first | k_is | rfl)
    (case s_1_1 => first | k_is | rfl)
    (case s_2_1 => first | k_is | rfl)
    (case s_3_1 => first | k_is | rfl)
    (case s_4_1 => first | k_is | rfl)
    (case s_5_1 => first | k_is | rfl)
    (case s_1_2 => first | k_is | rfl)
    (case s_2_2 => first | k_is | rfl)
    (case s_3_2 => first | k_is | rfl)
    (case s_4_2 => first | k_is | rfl)
    (case s_5_2 => first | k_is | rfl)
    (case s_1_3 => first | k_is | rfl)
    (case s_2_3 => first | k_is | rfl)
    (case s_3_3 => first | k_is | rfl)
    (case s_4_3 => first | k_is | rfl)
    (case s_5_3 => first | k_is | rfl)
    (case s_1_4 => first | k_is | rfl)
    (case s_2_4 => first | k_is | rfl)
    (case s_3_4 => first | k_is | rfl)
    (case s_4_4 => first | k_is | rfl)
    (case s_5_4 => first | k_is | rfl)
    (case s_1_5 => first | k_is | rfl)
    (case s_2_5 => first | k_is | rfl)
    (case s_3_5 => first | k_is | rfl)
    (case s_4_5 => first | k_is | rfl)
    (case s_5_5 => first | k_is | rfl)
    (case z_ValueError => k_is)
    (case z_abs => k_is)
    (case z_bool => k_is)
    (case z_enumerate => k_is)
    (case z_int => k_is)
    (case z_isinstance => k_is)
    (case z_len => k_is)
    (case z_list => k_is)
    (case z_max => k_is)
    (case z_range => k_is)
    (case z_repr => k_is)
    (case z_str => k_is)
    (case z_tuple => k_is)
