import PyProof.Rows.All
import PySem.Challenge.RW_restsadded_k48_whole_top_numbers
import Wide.All
import OpenK.AllK
import Wide.FinOn
import HandS.ForMost
import KE.KDictKeyed
import KE.SortData
import HandS.Wide
import HandS.TupAny
import HandS.TupMul
import HandS.TupLe
import HandS.Style
import HandS.Deep
import HandS.Star
import HandS.Zip
import KE.GoesNew
import HandS.Small
import HandS.Conv
import HandS.IsInst
import KE.KDictDisplayH
import KE.KTupSum
import PyProof.ReprRoads
import HandS.RaiseMore
import HandS.ReCall
import HandS.Ends
import HandS.Comp
set_option Elab.async false
set_option linter.all false
set_option autoImplicit false
set_option maxRecDepth 100000
/-! PL1: the plain layer: draws, data, how data stand in the abstract heap -/
namespace PL
open PySem PySem.Spec PyProof.Rows L2

/-! ### data -/
inductive D where
  | non | bl (b : Bool) | int (i : Int) | str (x : Str)
  | tup (xs : List D) | lst (xs : List D) | dct (kvs : List (NestedKey × D))
/-! ### runs with draws -/
inductive M (α : Type) : Type where
  | ret (a : α) : M α
  | fail : M α
  | pick (n : Nat) (k : Nat → M α) : M α
  | any (C : D → Prop) (k : D → M α) : M α
def M.bind {α β : Type} : M α → (α → M β) → M β
  | .ret a, f => f a
  | .fail, _ => .fail
  | .pick n k, f => .pick n fun i => (k i).bind f
  | .any C k, f => .any C fun i => (k i).bind f
def wp {α : Type} : M α → (α → Prop) → Prop
  | .ret a, Q => Q a
  | .fail, _ => False
  | .pick n k, Q => ∀ i, i < n → wp (k i) Q
  | .any C k, Q => ∀ d, C d → wp (k d) Q
theorem wp_ret {α : Type} {a : α} {Q : α → Prop} : wp (.ret a) Q ↔ Q a := Iff.rfl
theorem wp_bind {α β : Type} {f : α → M β} {Q : β → Prop} : ∀ {m : M α}, wp (m.bind f) Q ↔ wp m fun a => wp (f a) Q
  | .ret _ => Iff.rfl
  | .fail => Iff.rfl
  | .pick n k => ⟨fun h i hi => wp_bind.mp (h i hi), fun h i hi => wp_bind.mpr (h i hi)⟩
  | .any C k => ⟨fun h i hi => wp_bind.mp (h i hi), fun h i hi => wp_bind.mpr (h i hi)⟩
theorem wp_mono {α : Type} {Q Q' : α → Prop} : ∀ {m : M α}, wp m Q → (∀ a, Q a → Q' a) → wp m Q'
  | .ret a, h, f => f a h
  | .fail, h, _ => h
  | .pick n k, h, f => fun i hi => wp_mono (h i hi) f
  | .any C k, h, f => fun i hi => wp_mono (h i hi) f
theorem bind_ret {α : Type} : ∀ (m : M α), m.bind .ret = m
  | .ret _ => rfl
  | .fail => rfl
  | .pick n k => congrArg (M.pick n) (funext fun i => bind_ret (k i))
  | .any C k => congrArg (M.any C) (funext fun i => bind_ret (k i))
theorem bind_assoc {α β γ : Type} {f : α → M β} {g : β → M γ} : ∀ (m : M α), (m.bind f).bind g = m.bind fun a => (f a).bind g
  | .ret _ => rfl
  | .fail => rfl
  | .pick n k => congrArg (M.pick n) (funext fun i => bind_assoc (k i))
  | .any C k => congrArg (M.any C) (funext fun i => bind_assoc (k i))
/-- some or fail -/
def M.opt {α : Type} : Option α → M α
  | some a => .ret a
  | none => .fail

mutual
/-- as the library's data -/
def D.py : D → PyData
  | .non => .none
  | .bl b => .bool b
  | .int i => .int i
  | .str x => .str x
  | .tup xs => .tuple (D.pys xs)
  | .lst xs => .list (D.pys xs)
  | .dct kvs => .dict (D.pyk kvs)
def D.pys : List D → List PyData
  | [] => []
  | x :: xs => D.py x :: D.pys xs
def D.pyk : List (NestedKey × D) → List (PyData × PyData)
  | [] => []
  | (k, d) :: r => (k.data, D.py d) :: D.pyk r
end
mutual
/-- as a key -/
def D.key : D → Option NestedKey
  | .non => some .none
  | .int i => some (.num i)
  | .str x => some (.text x)
  | .tup xs => (D.keys xs).map .tup
  | _ => none
def D.keys : List D → Option (List NestedKey)
  | [] => some []
  | x :: xs => (D.key x).bind fun k => (D.keys xs).map fun r => k :: r
end
mutual
def ofKey : NestedKey → D
  | .none => .non
  | .num i => .int i
  | .text x => .str x
  | .tup ks => .tup (ofKeys ks)
def ofKeys : List NestedKey → List D
  | [] => []
  | k :: ks => ofKey k :: ofKeys ks
end

/-! ### how they stand -/
mutual
def Kp (K : PySem.W.Frag) (G : Hp) : NestedKey → V → Prop
  | .none, v => v = .non
  | .num i, v => v = .int i
  | .text x, v => v = .str x
  | .tup ks, v => ∃ a vs, v = .ref a ∧ SqT K G a vs ∧ Kps K G ks vs
def Kps (K : PySem.W.Frag) (G : Hp) : List NestedKey → List V → Prop
  | [], vs => vs = []
  | k :: ks, vs => ∃ v r, vs = v :: r ∧ Kp K G k v ∧ Kps K G ks r
end
def EntOk (w : World) (x : NestedKey × V × V) (e : DictEntry) : Prop := e.hash = x.1.hash w ∧ RelV x.2.1 e.key ∧ RelV x.2.2 e.val
/-- a dict's object: its entries' keys and values -/
def DObj (w : World) (a : Addr) (xs : List (NestedKey × V × V)) (h : Heap) : Prop :=
  xs.length ≤ sizeLine ∧ (a == sysModules) = false ∧ (xs.map (·.1)).Nodup ∧ ∃ o es ep, h.get? a = some o ∧ o.ExactDict ∧ o.data = .dict es ep ∧ Paired (EntOk w) xs es.toList
def DO (w : World) (a : Addr) (xs : List (NestedKey × V × V)) : HO := .ext (DObj w a xs)
mutual
def Rp (K : PySem.W.Frag) (w : World) (G : Hp) : D → V → Prop
  | .non, v => v = .non
  | .bl b, v => v = .bl b
  | .int i, v => v = .int i
  | .str x, v => v = .str x
  | .tup ds, v => ∃ a vs, v = .ref a ∧ SqT K G a vs ∧ Rps K w G ds vs
  | .lst ds, v => ∃ a vs, v = .ref a ∧ G a = some (.lst vs) ∧ Rps K w G ds vs
  | .dct kvs, v => ∃ a od xs, v = .ref a ∧ G a = some (.frz od (DO w a xs)) ∧ Rpk K w G kvs xs
def Rps (K : PySem.W.Frag) (w : World) (G : Hp) : List D → List V → Prop
  | [], vs => vs = []
  | d :: ds, vs => ∃ v r, vs = v :: r ∧ Rp K w G d v ∧ Rps K w G ds r
def Rpk (K : PySem.W.Frag) (w : World) (G : Hp) : List (NestedKey × D) → List (NestedKey × V × V) → Prop
  | [], xs => xs = []
  | (k, d) :: r, xs => ∃ kv vv r', xs = (k, kv, vv) :: r' ∧ Kp K G k kv ∧ Rp K w G d vv ∧ Rpk K w G r r'
end
theorem sqT_same {K : PySem.W.Frag} {G G' : Hp} {a : Addr} {xs : List V} (e : Same G G') (h : SqT K G a xs) : SqT K G' a xs := by
  rcases h with (h | ⟨o, h⟩) | h
  · exact .inl (.inl (e _ _ h))
  · exact .inl (.inr ⟨o, e _ _ h⟩)
  · exact .inr h
section
variable {K : PySem.W.Frag} {w : World} {G G' : Hp}
mutual
theorem Kp.same (e : Same G G') : ∀ (k : NestedKey) (v : V), Kp K G k v → Kp K G' k v
  | .none, _, h => by simpa only [Kp] using h
  | .num _, _, h => by simpa only [Kp] using h
  | .text _, _, h => by simpa only [Kp] using h
  | .tup ks, v, h => by
    simp only [Kp] at h ⊢
    obtain ⟨a, vs, e1, h1, h2⟩ := h
    exact ⟨a, vs, e1, sqT_same e h1, Kps.same e ks vs h2⟩
theorem Kps.same (e : Same G G') : ∀ (ks : List NestedKey) (vs : List V), Kps K G ks vs → Kps K G' ks vs
  | [], _, h => by simpa only [Kps] using h
  | k :: ks, vs, h => by
    simp only [Kps] at h ⊢
    obtain ⟨v, r, e1, h1, h2⟩ := h
    exact ⟨v, r, e1, Kp.same e k v h1, Kps.same e ks r h2⟩
end
mutual
theorem Rp.same (e : Same G G') : ∀ (d : D) (v : V), Rp K w G d v → Rp K w G' d v
  | .non, _, h => by simpa only [Rp] using h
  | .bl _, _, h => by simpa only [Rp] using h
  | .int _, _, h => by simpa only [Rp] using h
  | .str _, _, h => by simpa only [Rp] using h
  | .tup ds, v, h => by
    simp only [Rp] at h ⊢
    obtain ⟨a, vs, e1, h1, h2⟩ := h
    exact ⟨a, vs, e1, sqT_same e h1, Rps.same e ds vs h2⟩
  | .lst ds, v, h => by
    simp only [Rp] at h ⊢
    obtain ⟨a, vs, e1, h1, h2⟩ := h
    exact ⟨a, vs, e1, e _ _ h1, Rps.same e ds vs h2⟩
  | .dct kvs, v, h => by
    simp only [Rp] at h ⊢
    obtain ⟨a, od, xs, e1, h1, h2⟩ := h
    exact ⟨a, od, xs, e1, e _ _ h1, Rpk.same e kvs xs h2⟩
theorem Rps.same (e : Same G G') : ∀ (ds : List D) (vs : List V), Rps K w G ds vs → Rps K w G' ds vs
  | [], _, h => by simpa only [Rps] using h
  | d :: ds, vs, h => by
    simp only [Rps] at h ⊢
    obtain ⟨v, r, e1, h1, h2⟩ := h
    exact ⟨v, r, e1, Rp.same e d v h1, Rps.same e ds r h2⟩
theorem Rpk.same (e : Same G G') : ∀ (kvs : List (NestedKey × D)) (xs : List (NestedKey × V × V)), Rpk K w G kvs xs → Rpk K w G' kvs xs
  | [], _, h => by simpa only [Rpk] using h
  | (k, d) :: r, xs, h => by
    simp only [Rpk] at h ⊢
    obtain ⟨kv, vv, r', e1, h0, h1, h2⟩ := h
    exact ⟨kv, vv, r', e1, Kp.same e k kv h0, Rp.same e d vv h1, Rpk.same e r r' h2⟩
end
theorem Rps.length : ∀ {ds : List D} {vs : List V}, Rps K w G ds vs → vs.length = ds.length
  | [], _, h => by
    simp only [Rps] at h
    rw [h]
    rfl
  | d :: ds, vs, h => by
    simp only [Rps] at h
    obtain ⟨v, r, e1, h1, h2⟩ := h
    rw [e1, List.length_cons, List.length_cons, Rps.length h2]
theorem Rps.get : ∀ {ds : List D} {vs : List V} {i : Nat} {d : D}, Rps K w G ds vs → ds[i]? = some d → ∃ v, vs[i]? = some v ∧ Rp K w G d v
  | [], _, _, _, _, e => by simp at e
  | d :: ds, vs, 0, d', h, e => by
    simp only [Rps] at h
    obtain ⟨v, r, e1, h1, h2⟩ := h
    simp at e
    subst e
    exact ⟨v, by rw [e1]; rfl, h1⟩
  | d :: ds, vs, i + 1, d', h, e => by
    simp only [Rps] at h
    obtain ⟨v, r, e1, h1, h2⟩ := h
    obtain ⟨v', e2, h3⟩ := Rps.get (i := i) (d := d') h2 (by simpa using e)
    exact ⟨v', by rw [e1]; simpa using e2, h3⟩
theorem Rps.nil : Rps K w G [] [] := by simp only [Rps]
theorem Rps.cons {d : D} {v : V} {ds : List D} {vs : List V} (h : Rp K w G d v) (t : Rps K w G ds vs) : Rps K w G (d :: ds) (v :: vs) := by
  simp only [Rps]
  exact ⟨v, vs, rfl, h, t⟩
theorem Rps.append : ∀ {ds es : List D} {vs us : List V}, Rps K w G ds vs → Rps K w G es us → Rps K w G (ds ++ es) (vs ++ us)
  | [], _, _, _, h, t => by
    simp only [Rps] at h
    subst h
    exact t
  | d :: ds, es, vs, us, h, t => by
    simp only [Rps] at h
    obtain ⟨v, r, e1, h1, h2⟩ := h
    subst e1
    exact Rps.cons h1 (Rps.append h2 t)
theorem Rps.take : ∀ {ds : List D} {vs : List V} (n : Nat), Rps K w G ds vs → Rps K w G (ds.take n) (vs.take n)
  | _, _, 0, _ => by simp only [List.take_zero]; exact Rps.nil
  | [], _, n + 1, h => by
    simp only [Rps] at h
    subst h
    exact Rps.nil
  | d :: ds, vs, n + 1, h => by
    simp only [Rps] at h
    obtain ⟨v, r, e1, h1, h2⟩ := h
    subst e1
    exact Rps.cons h1 (Rps.take n h2)
theorem Rps.drop : ∀ {ds : List D} {vs : List V} (n : Nat), Rps K w G ds vs → Rps K w G (ds.drop n) (vs.drop n)
  | _, _, 0, h => h
  | [], _, n + 1, h => by
    simp only [Rps] at h
    subst h
    exact Rps.nil
  | d :: ds, vs, n + 1, h => by
    simp only [Rps] at h
    obtain ⟨v, r, e1, h1, h2⟩ := h
    subst e1
    exact Rps.drop n h2
theorem Rps.set {x : D} {v : V} (hx : Rp K w G x v) : ∀ {ds : List D} {vs : List V} (i : Nat), Rps K w G ds vs → Rps K w G (ds.set i x) (vs.set i v)
  | [], vs, i, h => by
    simp only [Rps] at h
    subst h
    exact Rps.nil
  | d :: ds, vs, 0, h => by
    simp only [Rps] at h
    obtain ⟨v', r, e1, h1, h2⟩ := h
    subst e1
    exact Rps.cons hx h2
  | d :: ds, vs, i + 1, h => by
    simp only [Rps] at h
    obtain ⟨v', r, e1, h1, h2⟩ := h
    subst e1
    exact Rps.cons h1 (Rps.set hx i h2)
theorem Rps.reverse : ∀ {ds : List D} {vs : List V}, Rps K w G ds vs → Rps K w G ds.reverse vs.reverse
  | [], _, h => by
    simp only [Rps] at h
    subst h
    exact Rps.nil
  | d :: ds, vs, h => by
    simp only [Rps] at h
    obtain ⟨v, r, e1, h1, h2⟩ := h
    subst e1
    rw [List.reverse_cons, List.reverse_cons]
    exact (Rps.reverse h2).append (Rps.cons h1 Rps.nil)
mutual
theorem Kp.rp : ∀ (k : NestedKey) (v : V), Kp K G k v → Rp K w G (ofKey k) v
  | .none, _, h => by simpa only [Kp, ofKey, Rp] using h
  | .num _, _, h => by simpa only [Kp, ofKey, Rp] using h
  | .text _, _, h => by simpa only [Kp, ofKey, Rp] using h
  | .tup ks, v, h => by
    simp only [Kp, ofKey, Rp] at h ⊢
    obtain ⟨a, vs, e1, h1, h2⟩ := h
    exact ⟨a, vs, e1, h1, Kps.rp ks vs h2⟩
theorem Kps.rp : ∀ (ks : List NestedKey) (vs : List V), Kps K G ks vs → Rps K w G (ofKeys ks) vs
  | [], _, h => by simpa only [Kps, ofKeys, Rps] using h
  | k :: ks, vs, h => by
    simp only [Kps, ofKeys, Rps] at h ⊢
    obtain ⟨v, r, e1, h1, h2⟩ := h
    exact ⟨v, r, e1, Kp.rp k v h1, Kps.rp ks r h2⟩
end
mutual
theorem Rp.kp : ∀ (d : D) (k : NestedKey) (v : V), D.key d = some k → Rp K w G d v → Kp K G k v
  | .non, k, _, e, h => by
    simp only [D.key, Option.some.injEq] at e
    subst e
    simpa only [Kp, Rp] using h
  | .bl _, _, _, e, _ => by simp [D.key] at e
  | .int _, k, _, e, h => by
    simp only [D.key, Option.some.injEq] at e
    subst e
    simpa only [Kp, Rp] using h
  | .str _, k, _, e, h => by
    simp only [D.key, Option.some.injEq] at e
    subst e
    simpa only [Kp, Rp] using h
  | .tup ds, k, v, e, h => by
    simp only [D.key, Option.map_eq_some_iff] at e
    obtain ⟨ks, e, rfl⟩ := e
    simp only [Rp, Kp] at h ⊢
    obtain ⟨a, vs, e1, h1, h2⟩ := h
    exact ⟨a, vs, e1, h1, Rps.kps ds ks vs e h2⟩
  | .lst _, _, _, e, _ => by simp [D.key] at e
  | .dct _, _, _, e, _ => by simp [D.key] at e
theorem Rps.kps : ∀ (ds : List D) (ks : List NestedKey) (vs : List V), D.keys ds = some ks → Rps K w G ds vs → Kps K G ks vs
  | [], ks, _, e, h => by
    simp only [D.keys, Option.some.injEq] at e
    subst e
    simpa only [Kps, Rps] using h
  | d :: ds, ks, vs, e, h => by
    simp only [D.keys, Option.bind_eq_some_iff, Option.map_eq_some_iff] at e
    obtain ⟨k, e1, r, e2, rfl⟩ := e
    simp only [Rps, Kps] at h ⊢
    obtain ⟨v, vr, e3, h1, h2⟩ := h
    exact ⟨v, vr, e3, Rp.kp d k v e1 h1, Rps.kps ds r vr e2 h2⟩
end
end
end PL

/-! PL2: the frame of a run: what is frozen (G), what is owned, the source; expressions' meanings -/
namespace PL
open PySem PySem.Spec PyProof.Rows L2

/-- the source of draws: its dict's and its cells' addresses -/
abbrev Src := Option (Addr × Addr)
def SrcAt (S : Src) (H : Hp) : Prop := ∀ p, S = some p → p.1 ≠ p.2 ∧ ∃ (cells : List Int) (left mixed turn : Int),
  H p.1 = some (.dK [(.inr "cells", .ref p.2), (.inr "left", .int left), (.inr "mixed", .int mixed), (.inr "turn", .int turn)]) ∧
  H p.2 = some (.lst (cells.map V.int)) ∧ (∀ c ∈ cells, 0 ≤ c) ∧ cells.length ≤ 63 ∧ 0 ≤ left
/-- not the source's -/
def NotS (S : Src) (b : Addr) : Prop := ∀ p, S = some p → b ≠ p.1 ∧ b ≠ p.2
structure Wf (S : Src) (G H : Hp) : Prop where
  gh : Same G H
  src : SrcAt S H
  gs : ∀ p, S = some p → G p.1 = none ∧ G p.2 = none
/-- what a run leaves: G grows by new things, all but the source stands -/
structure Ext (S : Src) (G H G' H' : Hp) : Prop where
  gg : Same G G'
  wf : Wf S G' H'
  fr : ∀ b o, H b = some o → NotS S b → H' b = some o
  new : ∀ b, G b = none → G' b ≠ none → H b = none
theorem SrcAt.there {S : Src} {H : Hp} (h : SrcAt S H) {b : Addr} (hb : ¬ NotS S b) : H b ≠ none := by
  intro e
  apply hb
  intro p hp
  obtain ⟨_, cells, l, m, t, h1, h2, _⟩ := h p hp
  constructor
  · rintro rfl
    rw [h1] at e
    cases e
  · rintro rfl
    rw [h2] at e
    cases e
theorem Ext.refl {S : Src} {G H : Hp} (h : Wf S G H) : Ext S G H G H := ⟨Same.refl _, h, fun _ _ e _ => e, fun _ e n => absurd e n⟩
theorem Ext.trans {S : Src} {G H G1 H1 G2 H2 : Hp} (w0 : SrcAt S H) (a : Ext S G H G1 H1) (b : Ext S G1 H1 G2 H2) : Ext S G H G2 H2 where
  gg := a.gg.trans b.gg
  wf := b.wf
  fr := fun c o e n => b.fr c o (a.fr c o e n) n
  new := fun c e n => by
    cases q : G1 c with
    | some o => exact a.new c e (by rw [q]; simp)
    | none =>
      have z := b.new c q n
      cases q2 : H c with
      | none => rfl
      | some o =>
        by_cases hs : NotS S c
        · have := a.fr c o q2 hs
          rw [z] at this
          cases this
        · exact absurd z (a.wf.src.there hs)
/-- a thing is laid at a new place, and is frozen -/
theorem Ext.lay {S : Src} {G H : Hp} {a : Addr} {o : HO} (h : Wf S G H) (ha : H a = none) : Ext S G H (upd G a o) (upd H a o) := by
  have hg : G a = none := h.gh.free ha
  have hs : NotS S a := fun p hp => by
    obtain ⟨_, cells, l, m, t, h1, h2, _⟩ := h.src p hp
    exact ⟨(fun e => by rw [e, h1] at ha; cases ha), (fun e => by rw [e, h2] at ha; cases ha)⟩
  refine ⟨fun b o' e => ?_, ⟨fun b o' e => ?_, fun p hp => ?_, fun p hp => ?_⟩, fun b o' e _ => ?_, fun b e n => ?_⟩
  · rw [upd_ne (ne_of_none e hg)]
    exact e
  · by_cases hb : b = a
    · subst hb
      rw [upd_same] at e ⊢
      exact e
    · rw [upd_ne hb] at e ⊢
      exact h.gh _ _ e
  · obtain ⟨ne, cells, l, m, t, h1, h2, r⟩ := h.src p hp
    obtain ⟨n1, n2⟩ := hs p hp
    exact ⟨ne, cells, l, m, t, by rw [upd_ne n1.symm]; exact h1, by rw [upd_ne n2.symm]; exact h2, r⟩
  · obtain ⟨n1, n2⟩ := hs p hp
    rw [upd_ne n1.symm, upd_ne n2.symm]
    exact h.gs p hp
  · rw [upd_ne (ne_of_none e ha)]
    exact e
  · by_cases hb : b = a
    · subst hb
      exact ha
    · rw [upd_ne hb] at n
      exact absurd e n
/-- a thing is laid at a new place, not frozen -/
theorem Ext.own {S : Src} {G H : Hp} {a : Addr} {o : HO} (h : Wf S G H) (ha : H a = none) : Ext S G H G (upd H a o) := by
  have hs : NotS S a := fun p hp => by
    obtain ⟨_, cells, l, m, t, h1, h2, _⟩ := h.src p hp
    exact ⟨(fun e => by rw [e, h1] at ha; cases ha), (fun e => by rw [e, h2] at ha; cases ha)⟩
  refine ⟨Same.refl _, ⟨fun b o' e => ?_, fun p hp => ?_, h.gs⟩, fun b o' e _ => ?_, fun b e n => absurd e n⟩
  · have := h.gh _ _ e
    rw [upd_ne (ne_of_none this ha)]
    exact this
  · obtain ⟨ne, cells, l, m, t, h1, h2, r⟩ := h.src p hp
    obtain ⟨n1, n2⟩ := hs p hp
    exact ⟨ne, cells, l, m, t, by rw [upd_ne n1.symm]; exact h1, by rw [upd_ne n2.symm]; exact h2, r⟩
  · rw [upd_ne (ne_of_none e ha)]
    exact e

theorem sqL_same {K : PySem.W.Frag} {G G' : Hp} {a : Addr} {xs : List V} (e : Same G G') (h : SqL K G a xs) : SqL K G' a xs := by
  rcases h with (h | ⟨o, h⟩) | h
  · exact .inl (.inl (e _ _ h))
  · exact .inl (.inr ⟨o, e _ _ h⟩)
  · exact .inr h
/-! ### slots -/
inductive Slot where
  | no | val (d : D) | own (d : D) | src | scr (ns : List Int)
abbrev Rho := List Slot
def OwnAt (K : PySem.W.Frag) (w : World) (G H : Hp) (d : D) (a : Addr) : Prop := G a = none ∧ match d with
  | .lst ds => ∃ vs, H a = some (.lst vs) ∧ Rps K w G ds vs
  | .dct kvs => ∃ xs, H a = some (DO w a xs) ∧ Rpk K w G kvs xs
  | _ => False
theorem OwnAt.there {K : PySem.W.Frag} {w : World} {G H : Hp} {d : D} {a : Addr} (h : OwnAt K w G H d a) : ∃ o, H a = some o ∧ Mut (some o) := by
  obtain ⟨_, h⟩ := h
  cases d with
  | lst ds => obtain ⟨vs, e, _⟩ := h; exact ⟨_, e, trivial⟩
  | dct kvs => obtain ⟨xs, e, _⟩ := h; exact ⟨_, e, trivial⟩
  | _ => exact h.elim
theorem OwnAt.ext {K : PySem.W.Frag} {w : World} {S : Src} {G H G' H' : Hp} {d : D} {a : Addr} (h : OwnAt K w G H d a) (hs : NotS S a) (e : Ext S G H G' H') : OwnAt K w G' H' d a := by
  obtain ⟨o, ho, _⟩ := h.there
  obtain ⟨h1, h2⟩ := h
  refine ⟨?_, ?_⟩
  · cases q : G' a with
    | none => rfl
    | some u =>
      have := e.new a h1 (by rw [q]; simp)
      rw [ho] at this
      cases this
  · cases d with
    | lst ds => obtain ⟨vs, q, r⟩ := h2; exact ⟨vs, e.fr _ _ q hs, Rps.same e.gg _ _ r⟩
    | dct kvs => obtain ⟨xs, q, r⟩ := h2; exact ⟨xs, e.fr _ _ q hs, Rpk.same e.gg _ _ r⟩
    | _ => exact h2.elim
/-- to be read: a value, or an owned thing -/
def Rr (K : PySem.W.Frag) (w : World) (S : Src) (G H : Hp) (d : D) (v : V) : Prop := Rp K w G d v ∨ ∃ a, v = .ref a ∧ NotS S a ∧ OwnAt K w G H d a
theorem Rr.ext {K : PySem.W.Frag} {w : World} {S : Src} {G H G' H' : Hp} {d : D} {v : V} (h : Rr K w S G H d v) (e : Ext S G H G' H') : Rr K w S G' H' d v := by
  rcases h with h | ⟨a, e1, n, h⟩
  · exact .inl (Rp.same e.gg _ _ h)
  · exact .inr ⟨a, e1, n, h.ext n e⟩
def SlotOk (K : PySem.W.Frag) (w : World) (S : Src) (H0 G H : Hp) (x : Option (Option V)) : Slot → Prop
  | .no => True
  | .val d => ∃ v, x = some (some v) ∧ Rp K w G d v
  | .own d => ∃ a, x = some (some (.ref a)) ∧ H0 a = none ∧ OwnAt K w G H d a
  | .src => ∃ p, S = some p ∧ x = some (some (.ref p.1))
  | .scr ns => ∃ a, x = some (some (.ref a)) ∧ SqL K G a (ns.map V.int)
/-- the frame's state: rho tells what the slots hold -/
structure Stk (K : PySem.W.Frag) (w : World) (S : Src) (G0 H0 G : Hp) (ρ : Rho) (σ : L2.St) (H : Hp) : Prop where
  src0 : SrcAt S H0
  ext : Ext S G0 H0 G H
  len : ρ.length = σ.length
  slots : ∀ (i : Nat) (s : Slot), ρ[i]? = some s → SlotOk K w S H0 G H σ[i]? s
  apart : ∀ (i j : Nat) (d e : D), i ≠ j → ρ[i]? = some (.own d) → ρ[j]? = some (.own e) → σ[i]? ≠ σ[j]?
section
variable {K : PySem.W.Frag} {w : World} {S : Src} {G0 H0 G H G' H' : Hp} {ρ : Rho} {σ : L2.St}
theorem SrcAt.notS {a : Addr} (h : SrcAt S H) (ha : H a = none) : NotS S a := fun p hp => by
  obtain ⟨_, cells, l, m, t, h1, h2, _⟩ := h p hp
  exact ⟨(fun e => by rw [e, h1] at ha; cases ha), (fun e => by rw [e, h2] at ha; cases ha)⟩
theorem Stk.wf (h : Stk K w S G0 H0 G ρ σ H) : Wf S G H := h.ext.wf
theorem Stk.step (h : Stk K w S G0 H0 G ρ σ H) (e : Ext S G H G' H') : Stk K w S G0 H0 G' ρ σ H' where
  src0 := h.src0
  ext := h.ext.trans h.src0 e
  len := h.len
  slots := fun i s hs => by
    have q := h.slots i s hs
    cases s with
    | no => trivial
    | val d => obtain ⟨v, e1, r⟩ := q; exact ⟨v, e1, Rp.same e.gg _ _ r⟩
    | own d => obtain ⟨a, e1, e2, r⟩ := q; exact ⟨a, e1, e2, r.ext (h.src0.notS e2) e⟩
    | src => exact q
    | scr ns => obtain ⟨a, e1, r⟩ := q; exact ⟨a, e1, sqL_same e.gg r⟩
  apart := h.apart
end

/-! ### results -/
inductive Mode where
  | val | fresh | read
def Res (K : PySem.W.Frag) (w : World) (S : Src) (H : Hp) (m : Mode) (d : D) (v : V) (G' H' : Hp) : Prop := match m with
  | .val => Rp K w G' d v
  | .fresh => ∃ a, v = .ref a ∧ H a = none ∧ OwnAt K w G' H' d a
  | .read => Rr K w S G' H' d v
/-- an expression's reading, by its meaning -/
def tE (K : PySem.W.Frag) (w : World) (S : Src) (md : Mode) (m : Rho → M D) : TE := fun σ H Q =>
  ∃ G0 H0 G ρ, Stk K w S G0 H0 G ρ σ H ∧ wp (m ρ) fun d => ∀ v G' H', Ext S G H G' H' → Res K w S H md d v G' H' → Q v H'
abbrev PEx (X : Cx) (S : Src) (md : Mode) (e : Expr) (m : Rho → M D) : Prop := PE X e (tE X.K X.w S md m)
abbrev PEm (X : Cx) (S : Src) (e : Expr) (m : Rho → M D) : Prop := PEx X S .val e m
abbrev PEf (X : Cx) (S : Src) (e : Expr) (m : Rho → M D) : Prop := PEx X S .fresh e m
abbrev PEr (X : Cx) (S : Src) (e : Expr) (m : Rho → M D) : Prop := PEx X S .read e m
def tT (K : PySem.W.Frag) (w : World) (S : Src) (m : Rho → M Bool) : TT := fun σ H Q =>
  ∃ G0 H0 G ρ, Stk K w S G0 H0 G ρ σ H ∧ wp (m ρ) fun b => ∀ G' H', Ext S G H G' H' → Q b H'
abbrev PTm (X : Cx) (S : Src) (e : Expr) (m : Rho → M Bool) : Prop := PT X e (tT X.K X.w S m)
abbrev PWm (X : Cx) (S : Src) (e : Expr) (m : Rho → M Bool) : Prop := PW X e (tT X.K X.w S m)
def tA (K : PySem.W.Frag) (w : World) (S : Src) (m : Rho → M (List D)) : TA := fun σ H Q =>
  ∃ G0 H0 G ρ, Stk K w S G0 H0 G ρ σ H ∧ wp (m ρ) fun ds => ∀ vs G' H', Ext S G H G' H' → Rps K w G' ds vs → Q vs H'
abbrev PAm (X : Cx) (S : Src) (es : List Expr) (m : Rho → M (List D)) : Prop := PA X es (tA X.K X.w S m)
theorem _root_.L2.PE.imp {X : Cx} {e : Expr} {t t' : TE} (h : PE X e t) (i : ∀ σ H Q, t' σ H Q → t σ H Q) : PE X e t' := ⟨fun pins s σ H Q I q => h.run pins s σ H Q I (i _ _ _ q)⟩
theorem _root_.L2.PT.imp {X : Cx} {e : Expr} {t t' : TT} (h : PT X e t) (i : ∀ σ H Q, t' σ H Q → t σ H Q) : PT X e t' := ⟨fun pins s σ H Q I q => h.run pins s σ H Q I (i _ _ _ q)⟩
theorem _root_.L2.PW.imp {X : Cx} {e : Expr} {t t' : TT} (h : PW X e t) (i : ∀ σ H Q, t' σ H Q → t σ H Q) : PW X e t' := ⟨fun wh pins s σ H Q I q => h.run wh pins s σ H Q I (i _ _ _ q)⟩
theorem _root_.L2.PA.imp {X : Cx} {e : List Expr} {t t' : TA} (h : PA X e t) (i : ∀ σ H Q, t' σ H Q → t σ H Q) : PA X e t' := ⟨fun pos pins s σ H Q I q => h.run pos pins s σ H Q I (i _ _ _ q)⟩
theorem _root_.L2.PS.imp {X : Cx} {e : Stmt} {t t' : TS} (h : PS X e t) (i : ∀ D σ H, t' D σ H → t D σ H) : PS X e t' := ⟨fun pins s σ H Q I q => h.run pins s σ H Q I (i _ _ _ q)⟩
theorem _root_.L2.PSs.imp {X : Cx} {e : List Stmt} {t t' : TS} (h : PSs X e t) (i : ∀ D σ H, t' D σ H → t D σ H) : PSs X e t' := ⟨fun pins s σ H Q I q => h.run pins s σ H Q I (i _ _ _ q)⟩

section
variable {X : Cx} {S : Src} {e : Expr} {f : Rho → M D}
theorem PEm.r (h : PEm X S e f) : PEr X S e f := h.imp fun σ H Q ⟨G0, H0, G, ρ, st, q⟩ => ⟨G0, H0, G, ρ, st, wp_mono q fun d k v G' H' x r => k v G' H' x (.inl r)⟩
theorem PEf.r (h : PEf X S e f) : PEr X S e f := h.imp fun σ H Q ⟨G0, H0, G, ρ, st, q⟩ => ⟨G0, H0, G, ρ, st, wp_mono q fun d k v G' H' x ⟨a, e1, n, r⟩ => k v G' H' x (.inr ⟨a, e1, st.wf.src.notS n, r⟩)⟩
/-- behind an expression its own new thing may be locked -/
def LQ (Q : VK) : VK := fun v H' => Q v H' ∨ ∃ a u, v = .ref a ∧ H' a = some u ∧ Mut (some u) ∧ ∀ od, Q v (upd H' a (.frz od u))
theorem pe_locks {t : TE} (h : PE X e t) : PE X e (fun σ H Q => t σ H (LQ Q)) := by
  refine ⟨fun pins s σ H Q I hw => ?_⟩
  refine thn (h.run pins s σ H _ I hw) fun v s1 ⟨x, H1, I1, r1, q1⟩ => ?_
  rcases q1 with q1 | ⟨a, u, rfl, e1, mu, q1⟩
  · exact ⟨x, H1, I1, r1, q1⟩
  · obtain ⟨od, I2⟩ := I1.lock e1 mu
    exact ⟨_, _, I2, r1, q1 od⟩
theorem Wf.freeze {G H : Hp} {a : Addr} {o : HO} (h : Wf S G H) (hs : NotS S a) (e : H a = some o) : Wf S (upd G a o) H := by
  refine ⟨fun b o' q => ?_, h.src, fun p hp => ?_⟩
  · by_cases hb : b = a
    · subst hb
      rw [upd_same] at q
      rw [e]
      exact q
    · rw [upd_ne hb] at q
      exact h.gh _ _ q
  · obtain ⟨n1, n2⟩ := hs p hp
    rw [upd_ne n1.symm, upd_ne n2.symm]
    exact h.gs p hp
theorem Ext.freeze {G H G' H' : Hp} {a : Addr} {o : HO} (h : Ext S G H G' H') (w0 : SrcAt S H) (ha : H a = none) (hg : G' a = none) (e : H' a = some o) : Ext S G H (upd G' a o) H' := by
  refine ⟨h.gg.trans fun b o' q => ?_, h.wf.freeze (w0.notS ha) e, h.fr, fun b q n => ?_⟩
  · rw [upd_ne (ne_of_none q hg)]
    exact q
  · by_cases hb : b = a
    · subst hb
      exact ha
    · rw [upd_ne hb] at n
      exact h.new b q n
/-- .. and a dict locked -/
theorem Ext.relay {G H G' H' : Hp} {a : Addr} {o : HO} (h : Ext S G H G' H') (w0 : SrcAt S H) (ha : H a = none) (hg : G' a = none) : Ext S G H (upd G' a o) (upd H' a o) := by
  have hs := w0.notS ha
  refine ⟨h.gg.trans fun b o' q => ?_, ⟨fun b o' q => ?_, fun p hp => ?_, fun p hp => ?_⟩, fun b o' q n => ?_, fun b q n => ?_⟩
  · rw [upd_ne (ne_of_none q hg)]
    exact q
  · by_cases hb : b = a
    · subst hb
      rw [upd_same] at q ⊢
      exact q
    · rw [upd_ne hb] at q ⊢
      exact h.wf.gh _ _ q
  · obtain ⟨ne, cells, l, m, t, h1, h2, r⟩ := h.wf.src p hp
    obtain ⟨n1, n2⟩ := hs p hp
    exact ⟨ne, cells, l, m, t, by rw [upd_ne n1.symm]; exact h1, by rw [upd_ne n2.symm]; exact h2, r⟩
  · obtain ⟨n1, n2⟩ := hs p hp
    rw [upd_ne n1.symm, upd_ne n2.symm]
    exact h.wf.gs p hp
  · rw [upd_ne (ne_of_none q ha)]
    exact h.fr b o' q n
  · by_cases hb : b = a
    · subst hb
      exact ha
    · rw [upd_ne hb] at n
      exact h.new b q n
theorem same_upd {G : Hp} {a : Addr} {o : HO} (h : G a = none) : Same G (upd G a o) := fun b o' q => by
  rw [upd_ne (ne_of_none q h)]
  exact q
theorem PEf.m (h : PEf X S e f) : PEm X S e f := by
  refine (pe_locks h).imp fun σ H Q ⟨G0, H0, G, ρ, st, q⟩ => ⟨G0, H0, G, ρ, st, wp_mono q fun d k v G' H' x ⟨a, e1, n, hg, r⟩ => ?_⟩
  cases d with
  | lst ds =>
    obtain ⟨vs, q1, q2⟩ := r
    refine .inl (k v (upd G' a (.lst vs)) H' (x.freeze st.wf.src n hg q1) ?_)
    show Rp _ _ _ _ _
    simp only [Rp]
    exact ⟨a, vs, e1, upd_same, Rps.same (same_upd hg) _ _ q2⟩
  | dct kvs =>
    obtain ⟨xs, q1, q2⟩ := r
    refine .inr ⟨a, _, e1, q1, trivial, fun od => k v (upd G' a (.frz od (DO X.w a xs))) _ (x.relay st.wf.src n hg) ?_⟩
    show Rp _ _ _ _ _
    simp only [Rp]
    exact ⟨a, od, xs, e1, upd_same, Rpk.same (same_upd hg) _ _ q2⟩
  | _ => exact r.elim

/-! ### names, constants -/
def vVal (i : Nat) : Rho → M D := fun ρ => match ρ[i]? with
  | some (.val d) => .ret d
  | _ => .fail
def vRd (i : Nat) : Rho → M D := fun ρ => match ρ[i]? with
  | some (.val d) => .ret d
  | some (.own d) => .ret d
  | _ => .fail
theorem xv (i : Nat) {x : Str} {pos : Pos} (hN : X.N[i]? = some x := by rfl) (hv : Vis X.env.scope x := by first | exact Or.inl rfl | exact Or.inr (Or.inl rfl) | exact Or.inr (Or.inr rfl)) (hd : (x == ("__debug__" : Str)) = false := by decide)
    (hcd : (x == ("__classdict__" : Str)) = false := by decide) : PEm X S (.Name x pos) (vVal i) := by
  refine (pe_var (i := i) hN hv hd hcd).imp fun σ H Q ⟨G0, H0, G, ρ, st, q⟩ => ?_
  unfold vVal at q
  cases e : ρ[i]? with
  | none => rw [e] at q; exact q.elim
  | some s =>
    rw [e] at q
    cases s with
    | val d =>
      obtain ⟨v, e1, r⟩ := st.slots i _ e
      exact ⟨v, e1, q v G H (Ext.refl st.wf) r⟩
    | _ => exact q.elim
theorem xr (i : Nat) {x : Str} {pos : Pos} (hN : X.N[i]? = some x := by rfl) (hv : Vis X.env.scope x := by first | exact Or.inl rfl | exact Or.inr (Or.inl rfl) | exact Or.inr (Or.inr rfl)) (hd : (x == ("__debug__" : Str)) = false := by decide)
    (hcd : (x == ("__classdict__" : Str)) = false := by decide) : PEr X S (.Name x pos) (vRd i) := by
  refine (pe_var (i := i) hN hv hd hcd).imp fun σ H Q ⟨G0, H0, G, ρ, st, q⟩ => ?_
  unfold vRd at q
  cases e : ρ[i]? with
  | none => rw [e] at q; exact q.elim
  | some s =>
    rw [e] at q
    cases s with
    | val d =>
      obtain ⟨v, e1, r⟩ := st.slots i _ e
      exact ⟨v, e1, q v G H (Ext.refl st.wf) (.inl r)⟩
    | own d =>
      obtain ⟨a, e1, e2, r⟩ := st.slots i _ e
      exact ⟨_, e1, q _ G H (Ext.refl st.wf) (.inr ⟨a, rfl, st.src0.notS e2, r⟩)⟩
    | _ => exact q.elim
def vC (d : D) : Rho → M D := fun _ => .ret d
theorem x_int {i j pos} : PEm X S (.Constant (.int i) j pos) (vC (.int i)) := pe_int.imp fun σ H Q ⟨G0, H0, G, ρ, st, q⟩ => q _ G H (Ext.refl st.wf) (by show Rp _ _ _ _ _; simp only [Rp])
theorem x_bl {i j pos} : PEm X S (.Constant (.bool i) j pos) (vC (.bl i)) := pe_bl.imp fun σ H Q ⟨G0, H0, G, ρ, st, q⟩ => q _ G H (Ext.refl st.wf) (by show Rp _ _ _ _ _; simp only [Rp])
theorem x_non {j pos} : PEm X S (.Constant .none j pos) (vC .non) := pe_non.imp fun σ H Q ⟨G0, H0, G, ρ, st, q⟩ => q _ G H (Ext.refl st.wf) (by show Rp _ _ _ _ _; simp only [Rp])
theorem x_str {i j pos} : PEm X S (.Constant (.str i) j pos) (vC (.str i)) := pe_str.imp fun σ H Q ⟨G0, H0, G, ρ, st, q⟩ => q _ G H (Ext.refl st.wf) (by show Rp _ _ _ _ _; simp only [Rp])
end
end PL

/-! PL3: operators, comparisons, tests -/
namespace PL
open PySem PySem.Spec PyProof.Rows L2

/-- a two-place operation, by data -/
def OpS (X : Cx) (S : Src) (f : Value → Value → Sem Value) (md : Mode) (g : D → D → Option D) : Prop :=
  OpR X f fun x y H Q => ∃ G d e r, Wf S G H ∧ Rr X.K X.w S G H d x ∧ Rr X.K X.w S G H e y ∧ g d e = some r ∧ ∀ v G' H', Ext S G H G' H' → Res X.K X.w S H md r v G' H' → Q v H'
def mOp (g : D → D → Option D) (ma mb : Rho → M D) : Rho → M D := fun ρ => (ma ρ).bind fun x => (mb ρ).bind fun y => .opt (g x y)
section
variable {X : Cx} {S : Src}
theorem Res.pull {K : PySem.W.Frag} {w : World} {md : Mode} {G H G1 H1 G' H' : Hp} {d : D} {v : V} (w0 : SrcAt S H) (e : Ext S G H G1 H1) (r : Res K w S H1 md d v G' H') : Res K w S H md d v G' H' := by
  cases md with
  | val => exact r
  | read => exact r
  | fresh =>
    obtain ⟨a, e1, n, o⟩ := r
    refine ⟨a, e1, ?_, o⟩
    cases q : H a with
    | none => rfl
    | some u =>
      by_cases hs : NotS S a
      · have := e.fr a u q hs
        rw [n] at this
        cases this
      · exact absurd n (e.wf.src.there hs)
theorem wp_opt {α : Type} {o : Option α} {Q : α → Prop} : wp (M.opt o) Q ↔ ∃ a, o = some a ∧ Q a := by
  cases o with
  | none => exact ⟨fun h => h.elim, fun ⟨_, h, _⟩ => by cases h⟩
  | some a => exact ⟨fun h => ⟨a, rfl, h⟩, fun ⟨b, h, q⟩ => by cases h; exact q⟩
theorem op_sound {f : Value → Value → Sem Value} {md : Mode} {g : D → D → Option D} {ma mb : Rho → M D} {σ : L2.St} {H : Hp} {Q : VK} (ho : OpS X S f md g) (h : tE X.K X.w S md (mOp g ma mb) σ H Q) :
    tE X.K X.w S .read ma σ H fun x H1 => tE X.K X.w S .read mb σ H1 fun y H2 => ∃ G d e r, Wf S G H2 ∧ Rr X.K X.w S G H2 d x ∧ Rr X.K X.w S G H2 e y ∧ g d e = some r ∧ ∀ v G' H', Ext S G H2 G' H' → Res X.K X.w S H2 md r v G' H' → Q v H' := by
  obtain ⟨G0, H0, G, ρ, st, q⟩ := h
  refine ⟨G0, H0, G, ρ, st, wp_mono (wp_bind.mp q) fun d q1 v1 G1 H1 e1 r1 => ?_⟩
  have st1 := st.step e1
  refine ⟨G0, H0, G1, ρ, st1, wp_mono (wp_bind.mp q1) fun e q2 v2 G2 H2 e2 r2 => ?_⟩
  obtain ⟨r, hr, k⟩ := wp_opt.mp q2
  have r1' : Rr X.K X.w S G1 H1 d v1 := r1
  have e12 := e1.trans st.wf.src e2
  exact ⟨G2, d, e, r, e2.wf, r1'.ext e2, r2, hr, fun v G' H' e3 r3 => k v G' H' (e12.trans st.wf.src e3) (r3.pull st.wf.src e12)⟩
theorem x_op {a b : Expr} {op : Operator} {pos : Pos} {md : Mode} {g : D → D → Option D} {ma mb : Rho → M D} (ho : OpS X S (binaryOp op) md g) (ha : PEr X S a ma) (hb : PEr X S b mb) : PEx X S md (.BinOp a op b pos) (mOp g ma mb) :=
  (pe_op ho ha hb).imp fun _ _ _ h => op_sound ho h
theorem x_cmp {a b : Expr} {op : CmpOp} {pos : Pos} {md : Mode} {g : D → D → Option D} {ma mb : Rho → M D} (ho : OpS X S (compareOp op) md g) (ha : PEr X S a ma) (hb : PEr X S b mb) (hm : behindInMarks op b = false) : PEx X S md (.Compare a [op] [b] pos) (mOp g ma mb) :=
  (pe_cmpR ho ha hb hm).imp fun _ _ _ h => op_sound ho h
/-- a value that is True or False -/
def toB : D → M Bool
  | .bl b => .ret b
  | _ => .fail
def mB (m : Rho → M D) : Rho → M Bool := fun ρ => (m ρ).bind toB
theorem mB_sound {m : Rho → M D} {σ : L2.St} {H : Hp} {Q : Bool → Hp → Prop} (h : tT X.K X.w S (mB m) σ H Q) : tE X.K X.w S .val m σ H fun v H1 => ∃ c, v = .bl c ∧ Q c H1 := by
  obtain ⟨G0, H0, G, ρ, st, q⟩ := h
  refine ⟨G0, H0, G, ρ, st, wp_mono (wp_bind.mp q) fun d q1 v1 G1 H1 e1 r1 => ?_⟩
  cases d with
  | bl b =>
    have r1' : Rp X.K X.w G1 (.bl b) v1 := r1
    simp only [Rp] at r1'
    exact ⟨b, r1', q1 G1 H1 e1⟩
  | _ => exact q1.elim
theorem t_val {e : Expr} {m : Rho → M D} (h : PEm X S e m) (he : ∀ whole, isTrue e X.env whole = (do let v ← whole; standAt e.pos; holding [v] (truthy v)) := by intro _; rfl) : PTm X S e (mB m) :=
  (pt_val h he).imp fun _ _ _ q => mB_sound q
theorem t_cmp {a b : Expr} {op : CmpOp} {pos : Pos} {g : D → D → Option D} {ma mb : Rho → M D} (ho : OpS X S (compareOp op) .val g) (ha : PEr X S a ma) (hb : PEr X S b mb) (hm : behindInMarks op b = false) : PTm X S (.Compare a [op] [b] pos) (mB (mOp g ma mb)) :=
  (pt_cmpR ho ha hb hm).imp fun _ _ _ h => op_sound ho (mB_sound h)
def mAnd (a b : Rho → M Bool) : Rho → M Bool := fun ρ => (a ρ).bind fun x => if x = true then b ρ else .ret false
def mOr (a b : Rho → M Bool) : Rho → M Bool := fun ρ => (a ρ).bind fun x => if x = true then .ret true else b ρ
def mNot (a : Rho → M Bool) : Rho → M Bool := fun ρ => (a ρ).bind fun x => .ret (!x)
theorem t_and1 {a : Expr} {pos : Pos} {m : Rho → M Bool} (ha : PTm X S a m) : PWm X S (.BoolOp .And [a] pos) m := pw_and1 ha
theorem t_or1 {a : Expr} {pos : Pos} {m : Rho → M Bool} (ha : PTm X S a m) : PWm X S (.BoolOp .Or [a] pos) m := pw_or1 ha
theorem tT_trans {m : Rho → M Bool} {f : Bool → Rho → M Bool} {σ : L2.St} {H : Hp} {Q : Bool → Hp → Prop} (h : tT X.K X.w S (fun ρ => (m ρ).bind fun x => f x ρ) σ H Q) :
    tT X.K X.w S m σ H fun c H1 => tT X.K X.w S (f c) σ H1 Q := by
  obtain ⟨G0, H0, G, ρ, st, q⟩ := h
  refine ⟨G0, H0, G, ρ, st, wp_mono (wp_bind.mp q) fun c q1 G1 H1 e1 => ?_⟩
  exact ⟨G0, H0, G1, ρ, st.step e1, wp_mono q1 fun c' q2 G2 H2 e2 => q2 G2 H2 (e1.trans st.wf.src e2)⟩
theorem tT_ret {b : Bool} {σ : L2.St} {H : Hp} {Q : Bool → Hp → Prop} (h : tT X.K X.w S (fun _ => .ret b) σ H Q) : Q b H := by
  obtain ⟨G0, H0, G, ρ, st, q⟩ := h
  exact q G H (Ext.refl st.wf)
theorem tT_mono {m : Rho → M Bool} {σ : L2.St} {H : Hp} {Q Q' : Bool → Hp → Prop} (h : tT X.K X.w S m σ H Q) (i : ∀ b H, Q b H → Q' b H) : tT X.K X.w S m σ H Q' := by
  obtain ⟨G0, H0, G, ρ, st, q⟩ := h
  exact ⟨G0, H0, G, ρ, st, wp_mono q fun c k G' H' e => i _ _ (k G' H' e)⟩
theorem tE_mono {md : Mode} {m : Rho → M D} {σ : L2.St} {H : Hp} {Q Q' : VK} (h : tE X.K X.w S md m σ H Q) (i : ∀ b H, Q b H → Q' b H) : tE X.K X.w S md m σ H Q' := by
  obtain ⟨G0, H0, G, ρ, st, q⟩ := h
  exact ⟨G0, H0, G, ρ, st, wp_mono q fun c k v G' H' e r => i _ _ (k v G' H' e r)⟩
theorem t_and {a b : Expr} {rest : List Expr} {pos : Pos} {m n : Rho → M Bool} (ha : PTm X S a m) (hb : PWm X S (.BoolOp .And (b :: rest) pos) n) : PWm X S (.BoolOp .And (a :: b :: rest) pos) (mAnd m n) :=
  (pw_and ha hb).imp fun σ H Q h => tT_mono (tT_trans (f := fun x ρ => if x = true then n ρ else .ret false) h) fun c H1 q => by
    cases c with
    | true => exact q
    | false => exact tT_ret q
theorem t_or {a b : Expr} {rest : List Expr} {pos : Pos} {m n : Rho → M Bool} (ha : PTm X S a m) (hb : PWm X S (.BoolOp .Or (b :: rest) pos) n) : PWm X S (.BoolOp .Or (a :: b :: rest) pos) (mOr m n) :=
  (pw_or ha hb).imp fun σ H Q h => tT_mono (tT_trans (f := fun x ρ => if x = true then .ret true else n ρ) h) fun c H1 q => by
    cases c with
    | true => exact tT_ret q
    | false => exact q
theorem t_not {a : Expr} {pos : Pos} {m : Rho → M Bool} (ha : PTm X S a m) : PTm X S (.UnaryOp .Not a pos) (mNot m) :=
  (pt_not ha).imp fun σ H Q h => tT_mono (tT_trans (f := fun x ρ => .ret (!x)) h) fun c H1 q => tT_ret q
theorem t_pw {e : Expr} {m : Rho → M Bool} (h : PWm X S e m) : PTm X S e m := PW.pt h
/-- and, or, not as values -/
def mBD (m : Rho → M Bool) : Rho → M D := fun ρ => (m ρ).bind fun b => .ret (.bl b)
theorem rp_bl {K : PySem.W.Frag} {w : World} {G : Hp} {b : Bool} : Rp K w G (.bl b) (.bl b) := by simp only [Rp]
theorem rp_int {K : PySem.W.Frag} {w : World} {G : Hp} {b : Int} : Rp K w G (.int b) (.int b) := by simp only [Rp]
theorem rp_str {K : PySem.W.Frag} {w : World} {G : Hp} {b : Str} : Rp K w G (.str b) (.str b) := by simp only [Rp]
theorem rp_non {K : PySem.W.Frag} {w : World} {G : Hp} : Rp K w G .non .non := by simp only [Rp]
theorem res_bl {K : PySem.W.Frag} {w : World} {G H H' : Hp} {b : Bool} : Res K w S H .val (.bl b) (.bl b) G H' := @rp_bl K w G b
theorem res_int {K : PySem.W.Frag} {w : World} {G H H' : Hp} {b : Int} : Res K w S H .val (.int b) (.int b) G H' := @rp_int K w G b
theorem res_str {K : PySem.W.Frag} {w : World} {G H H' : Hp} {b : Str} : Res K w S H .val (.str b) (.str b) G H' := @rp_str K w G b
theorem res_non {K : PySem.W.Frag} {w : World} {G H H' : Hp} : Res K w S H .val .non .non G H' := @rp_non K w G
theorem tE_trans {md md' : Mode} {m : Rho → M D} {f : D → Rho → M D} {σ : L2.St} {H : Hp} {Q : VK} (h : tE X.K X.w S md' (fun ρ => (m ρ).bind fun x => f x ρ) σ H Q) :
    tE X.K X.w S md m σ H fun v H1 => ∃ G d, Wf S G H1 ∧ Res X.K X.w S H md d v G H1 ∧ tE X.K X.w S md' (f d) σ H1 Q := by
  obtain ⟨G0, H0, G, ρ, st, q⟩ := h
  refine ⟨G0, H0, G, ρ, st, wp_mono (wp_bind.mp q) fun d q1 v1 G1 H1 e1 r1 => ?_⟩
  exact ⟨G1, d, e1.wf, r1, G0, H0, G1, ρ, st.step e1, wp_mono q1 fun d' q2 v2 G2 H2 e2 r2 => q2 v2 G2 H2 (e1.trans st.wf.src e2) (r2.pull st.wf.src e1)⟩
theorem tE_ret {d : D} {σ : L2.St} {H : Hp} {Q : VK} (h : tE X.K X.w S .val (fun _ => .ret d) σ H Q) : ∃ G, Wf S G H ∧ ∀ v G' H', Ext S G H G' H' → Rp X.K X.w G' d v → Q v H' := by
  obtain ⟨G0, H0, G, ρ, st, q⟩ := h
  exact ⟨G, st.wf, q⟩
theorem x_one {a : Expr} {op : BoolOp} {pos : Pos} {m : Rho → M D} (ha : PEm X S a m) : PEm X S (.BoolOp op [a] pos) m := pe_one ha
theorem x_and {a b : Expr} {rest : List Expr} {pos : Pos} {m n : Rho → M D} (ha : PEm X S a m) (hb : PEm X S (.BoolOp .And (b :: rest) pos) n) :
    PEm X S (.BoolOp .And (a :: b :: rest) pos) (fun ρ => (m ρ).bind fun x => (toB x).bind fun c => if c = true then n ρ else .ret (.bl false)) :=
  (pe_and ha hb).imp fun σ H Q h => tE_mono (tE_trans (f := fun x ρ => (toB x).bind fun c => if c = true then n ρ else .ret (.bl false)) h) fun v H1 ⟨G, d, wf, r, q⟩ => by
    cases d with
    | bl c =>
      have r' : Rp X.K X.w G (.bl c) v := r
      simp only [Rp] at r'
      refine ⟨c, r', ?_⟩
      cases c with
      | true => exact q
      | false =>
        obtain ⟨G2, w2, k⟩ := tE_ret q
        exact k _ G2 H1 (Ext.refl w2) rp_bl
    | _ => obtain ⟨_, _, _, _, _, z⟩ := q; exact z.elim
theorem x_or {a b : Expr} {rest : List Expr} {pos : Pos} {m n : Rho → M D} (ha : PEm X S a m) (hb : PEm X S (.BoolOp .Or (b :: rest) pos) n) :
    PEm X S (.BoolOp .Or (a :: b :: rest) pos) (fun ρ => (m ρ).bind fun x => (toB x).bind fun c => if c = true then .ret (.bl true) else n ρ) :=
  (pe_or ha hb).imp fun σ H Q h => tE_mono (tE_trans (f := fun x ρ => (toB x).bind fun c => if c = true then .ret (.bl true) else n ρ) h) fun v H1 ⟨G, d, wf, r, q⟩ => by
    cases d with
    | bl c =>
      have r' : Rp X.K X.w G (.bl c) v := r
      simp only [Rp] at r'
      refine ⟨c, r', ?_⟩
      cases c with
      | true =>
        obtain ⟨G2, w2, k⟩ := tE_ret q
        exact k _ G2 H1 (Ext.refl w2) rp_bl
      | false => exact q
    | _ => obtain ⟨_, _, _, _, _, z⟩ := q; exact z.elim
def notD : D → M D
  | .bl b => .ret (.bl (!b))
  | _ => .fail
theorem x_not {a : Expr} {pos : Pos} {m : Rho → M D} (ha : PEm X S a m) : PEm X S (.UnaryOp .Not a pos) (fun ρ => (m ρ).bind notD) :=
  (pe_not ha).imp fun σ H Q h => tE_mono (tE_trans (f := fun x _ => notD x) h) fun v H1 ⟨G, d, wf, r, q⟩ => by
    cases d with
    | bl c =>
      have r' : Rp X.K X.w G (.bl c) v := r
      simp only [Rp] at r'
      obtain ⟨G2, w2, k⟩ := tE_ret q
      exact ⟨c, r', k _ G2 H1 (Ext.refl w2) rp_bl⟩
    | _ => obtain ⟨_, _, _, _, _, z⟩ := q; exact z.elim
def mIf (c : Rho → M Bool) (a b : Rho → M D) : Rho → M D := fun ρ => (c ρ).bind fun x => if x = true then a ρ else b ρ
theorem tT_transE {md : Mode} {m : Rho → M Bool} {f : Bool → Rho → M D} {σ : L2.St} {H : Hp} {Q : VK} (h : tE X.K X.w S md (fun ρ => (m ρ).bind fun x => f x ρ) σ H Q) :
    tT X.K X.w S m σ H fun c H1 => tE X.K X.w S md (f c) σ H1 Q := by
  obtain ⟨G0, H0, G, ρ, st, q⟩ := h
  refine ⟨G0, H0, G, ρ, st, wp_mono (wp_bind.mp q) fun c q1 G1 H1 e1 => ?_⟩
  exact ⟨G0, H0, G1, ρ, st.step e1, wp_mono q1 fun d' q2 v2 G2 H2 e2 r2 => q2 v2 G2 H2 (e1.trans st.wf.src e2) (r2.pull st.wf.src e1)⟩
theorem x_if {md : Mode} {c a b : Expr} {pos : Pos} {mc : Rho → M Bool} {ma mb : Rho → M D} (hc : PTm X S c mc) (ha : PEx X S md a ma) (hb : PEx X S md b mb) : PEx X S md (.IfExp c a b pos) (mIf mc ma mb) :=
  (pe_ifExp hc ha hb).imp fun σ H Q h => tT_mono (tT_transE (f := fun x ρ => if x = true then ma ρ else mb ρ) h) fun c H1 q => by
    cases c with
    | true => exact q
    | false => exact q

/-! ### the operators -/
theorem OpS.of {f : Value → Value → Sem Value} {md : Mode} {g : D → D → Option D} {r : R2} (ho : OpR X f r)
    (h : ∀ G H x y d e z Q, Wf S G H → Rr X.K X.w S G H d x → Rr X.K X.w S G H e y → g d e = some z → (∀ v G' H', Ext S G H G' H' → Res X.K X.w S H md z v G' H' → Q v H') → r x y H Q) : OpS X S f md g := by
  intro pins s σ H x y v u Q I rx ry hw
  obtain ⟨G, d, e, z, wf, r1, r2, hz, k⟩ := hw
  exact ho pins s σ H x y v u Q I rx ry (h G H x y d e z Q wf r1 r2 hz k)
theorem Rr.int {K : PySem.W.Frag} {w : World} {G H : Hp} {i : Int} {v : V} (h : Rr K w S G H (.int i) v) : v = .int i := by
  rcases h with h | ⟨a, _, _, _, h⟩
  · simpa only [Rp] using h
  · exact h.elim
theorem Rr.bl {K : PySem.W.Frag} {w : World} {G H : Hp} {i : Bool} {v : V} (h : Rr K w S G H (.bl i) v) : v = .bl i := by
  rcases h with h | ⟨a, _, _, _, h⟩
  · simpa only [Rp] using h
  · exact h.elim
theorem Rr.str {K : PySem.W.Frag} {w : World} {G H : Hp} {i : Str} {v : V} (h : Rr K w S G H (.str i) v) : v = .str i := by
  rcases h with h | ⟨a, _, _, _, h⟩
  · simpa only [Rp] using h
  · exact h.elim
theorem Rr.tup {K : PySem.W.Frag} {w : World} {G H : Hp} {ds : List D} {v : V} (wf : Same G H) (h : Rr K w S G H (.tup ds) v) : ∃ a vs, v = .ref a ∧ SqT K G a vs ∧ SqT K H a vs ∧ Rps K w G ds vs := by
  rcases h with h | ⟨a, _, _, _, h⟩
  · simp only [Rp] at h
    obtain ⟨a, vs, e, h1, h2⟩ := h
    exact ⟨a, vs, e, h1, sqT_same wf h1, h2⟩
  · exact h.elim
theorem Rr.lst {K : PySem.W.Frag} {w : World} {G H : Hp} {ds : List D} {v : V} (wf : Same G H) (h : Rr K w S G H (.lst ds) v) : ∃ a vs, v = .ref a ∧ H a = some (.lst vs) ∧ Rps K w G ds vs := by
  rcases h with h | ⟨a, e, _, _, vs, h1, h2⟩
  · simp only [Rp] at h
    obtain ⟨a, vs, e, h1, h2⟩ := h
    exact ⟨a, vs, e, wf _ _ h1, h2⟩
  · exact ⟨a, vs, e, h1, h2⟩
theorem res_tup {K : PySem.W.Frag} {w : World} {G : Hp} {a : Addr} {ds : List D} {vs : List V} (hg : G a = none) (h : Rps K w G ds vs) : Rp K w (upd G a (.tup vs)) (.tup ds) (.ref a) := by
  simp only [Rp]
  exact ⟨a, vs, rfl, SqT.of upd_same, Rps.same (same_upd hg) _ _ h⟩
theorem res_lst {K : PySem.W.Frag} {w : World} {G : Hp} {a : Addr} {ds : List D} {vs : List V} (hg : G a = none) (h : Rps K w G ds vs) : Rp K w (upd G a (.lst vs)) (.lst ds) (.ref a) := by
  simp only [Rp]
  exact ⟨a, vs, rfl, upd_same, Rps.same (same_upd hg) _ _ h⟩
theorem own_lst {K : PySem.W.Frag} {w : World} {G H : Hp} {a : Addr} {ds : List D} {vs : List V} (hg : G a = none) (h : Rps K w G ds vs) : OwnAt K w G (upd H a (.lst vs)) (.lst ds) a := ⟨hg, vs, upd_same, h⟩
/-- ints -/
def gI (f : Int → Int → D) : D → D → Option D
  | .int i, .int j => some (f i j)
  | _, _ => none
def gC (C : Int → Int → Bool) (f : Int → Int → D) : D → D → Option D
  | .int i, .int j => if C i j = true then some (f i j) else none
  | _, _ => none
theorem ops_I {f : Value → Value → Sem Value} {h : Int → Int → Int} (ho : OpR X f (rI0 fun i j => .int (h i j))) : OpS X S f .val (gI fun i j => .int (h i j)) := OpS.of ho fun G H x y d e z Q wf r1 r2 hz k => by
  cases d <;> cases e <;> simp only [gI, Option.some.injEq, reduceCtorEq] at hz
  subst hz
  exact ⟨_, _, r1.int, r2.int, k _ G H (Ext.refl wf) res_int⟩
theorem ops_B {f : Value → Value → Sem Value} {h : Int → Int → Bool} (ho : OpR X f (rI0 fun i j => .bl (h i j))) : OpS X S f .val (gI fun i j => .bl (h i j)) := OpS.of ho fun G H x y d e z Q wf r1 r2 hz k => by
  cases d <;> cases e <;> simp only [gI, Option.some.injEq, reduceCtorEq] at hz
  subst hz
  exact ⟨_, _, r1.int, r2.int, k _ G H (Ext.refl wf) res_bl⟩
theorem ops_C {f : Value → Value → Sem Value} {C : Int → Int → Prop} {B : Int → Int → Bool} {h : Int → Int → Int} (ho : OpR X f (rI C fun i j => .int (h i j))) (hC : ∀ i j, B i j = true → C i j) : OpS X S f .val (gC B fun i j => .int (h i j)) := OpS.of ho fun G H x y d e z Q wf r1 r2 hz k => by
  cases d <;> cases e <;> simp only [gC, reduceCtorEq] at hz
  split at hz
  · rename_i hb
    simp only [Option.some.injEq] at hz
    subst hz
    exact ⟨_, _, r1.int, r2.int, hC _ _ hb, k _ G H (Ext.refl wf) res_int⟩
  · cases hz
def small (i : Int) : Bool := decide (-(2 ^ 64) < i) && decide (i < 2 ^ 64)
/-- a + b -/
def gAdd : D → D → Option D
  | .int i, .int j => some (.int (i + j))
  | .tup xs, .tup ys => if xs.length + ys.length ≤ sizeLine then some (.tup (xs ++ ys)) else none
  | .lst xs, .lst ys => if xs.length + ys.length ≤ sizeLine then some (.lst (xs ++ ys)) else none
  | _, _ => none
def gCat : D → D → Option D
  | .lst xs, .lst ys => if xs.length + ys.length ≤ sizeLine then some (.lst (xs ++ ys)) else none
  | _, _ => none
theorem s_cat : OpS X S (binaryOp .Add) .fresh gCat := OpS.of op_cat fun G H x y d e z Q wf r1 r2 hz k => by
  cases d <;> cases e <;> simp only [gCat, reduceCtorEq] at hz
  split at hz
  · rename_i hl
    simp only [Option.some.injEq] at hz
    subst hz
    obtain ⟨a, vs, rfl, h1, q1⟩ := r1.lst wf.gh
    obtain ⟨b, us, rfl, h2, q2⟩ := r2.lst wf.gh
    refine ⟨a, b, vs, us, rfl, rfl, h1, h2, by rw [q1.length, q2.length]; exact hl, fun p hp => k _ G _ (Ext.own wf hp) ⟨p, rfl, hp, own_lst (wf.gh.free hp) (q1.append q2)⟩⟩
  · cases hz
theorem s_add : OpS X S (binaryOp .Add) .val gAdd := OpS.of ((op_add (X := X)).or ((op_catA (X := X)).or op_cat)) fun G H x y d e z Q wf r1 r2 hz k => by
  cases d <;> cases e <;> simp only [gAdd, reduceCtorEq, Option.some.injEq] at hz
  · subst hz
    exact .inl ⟨_, _, r1.int, r2.int, k _ G H (Ext.refl wf) res_int⟩
  · split at hz
    · rename_i xs ys hl
      simp only [Option.some.injEq] at hz
      subst hz
      obtain ⟨a, vs, rfl, h1', h1, q1⟩ := r1.tup wf.gh
      obtain ⟨b, us, rfl, h2', h2, q2⟩ := r2.tup wf.gh
      refine .inr (.inl ⟨a, b, vs, us, rfl, rfl, h1, h2, by rw [q1.length, q2.length]; exact hl, fun e => ?_, fun _ e => ?_, fun _ _ p hp => k _ _ _ (Ext.lay wf hp) (res_tup (wf.gh.free hp) (q1.append q2))⟩)
      · subst e
        have e0 : xs = [] := List.eq_nil_of_length_eq_zero q1.length.symm
        subst e0
        refine k _ G H (Ext.refl wf) ?_
        show Rp _ _ _ _ _
        simp only [Rp]
        exact ⟨b, us, rfl, h2', q2⟩
      · subst e
        have e0 : ys = [] := List.eq_nil_of_length_eq_zero q2.length.symm
        subst e0
        refine k _ G H (Ext.refl wf) ?_
        show Rp _ _ _ _ _
        simp only [Rp]
        exact ⟨a, vs, rfl, h1', by rw [List.append_nil]; exact q1⟩
    · cases hz
  · split at hz
    · rename_i hl
      simp only [Option.some.injEq] at hz
      subst hz
      obtain ⟨a, vs, rfl, h1, q1⟩ := r1.lst wf.gh
      obtain ⟨b, us, rfl, h2, q2⟩ := r2.lst wf.gh
      refine .inr (.inr ⟨a, b, vs, us, rfl, rfl, h1, h2, by rw [q1.length, q2.length]; exact hl, fun p hp => k _ _ _ (Ext.lay wf hp) (res_lst (wf.gh.free hp) (q1.append q2))⟩)
    · cases hz
theorem s_sub : OpS X S (binaryOp .Sub) .val (gI fun i j => .int (i - j)) := ops_I op_sub
theorem s_mul : OpS X S (binaryOp .Mult) .val (gC (fun i j => small i || small j) fun i j => .int (i * j)) := ops_C op_mul fun i j h => by
  unfold CMul
  simpa only [small, Bool.or_eq_true, Bool.and_eq_true, decide_eq_true_eq] using h
theorem s_mulW : OpS X S (binaryOp .Mult) .val (gC (fun i j => decide (i.natAbs.log2 + j.natAbs.log2 < 1000000)) fun i j => .int (i * j)) := ops_C op_mulW fun i j h => by
  unfold CMulW
  exact of_decide_eq_true h
theorem s_fdiv : OpS X S (binaryOp .FloorDiv) .val (gC (fun _ j => decide (0 < j) && decide (j.natAbs.log2 < 9000)) fun i j => .int (i / j)) := ops_C op_fdivW fun i j h => by
  unfold CDivW
  simpa only [Bool.and_eq_true, decide_eq_true_eq] using h
theorem s_mod : OpS X S (binaryOp .Mod) .val (gC (fun _ j => decide (0 < j)) fun i j => .int (i % j)) := ops_C op_mod fun i j h => of_decide_eq_true h
theorem s_lt : OpS X S (compareOp .Lt) .val (gI fun i j => .bl (decide (i < j))) := ops_B op_lt
theorem s_le : OpS X S (compareOp .LtE) .val (gI fun i j => .bl (decide (i ≤ j))) := ops_B op_le
theorem s_gt : OpS X S (compareOp .Gt) .val (gI fun i j => .bl (decide (j < i))) := ops_B op_gt
theorem s_ge : OpS X S (compareOp .GtE) .val (gI fun i j => .bl (decide (j ≤ i))) := ops_B op_ge
end
end PL

/-! PL4: == of data, arguments, displays, subscripts, slices, calls of built-ins -/
namespace PL
open PySem PySem.Spec PyProof.Rows L2
mutual
def noDct : D → Bool
  | .tup xs => noDcts xs
  | .lst xs => noDcts xs
  | .dct _ => false
  | _ => true
def noDcts : List D → Bool
  | [] => true
  | x :: xs => noDct x && noDcts xs
end
section
variable {K : PySem.W.Frag} {w : World} {G H : Hp}
mutual
theorem Rp.dp (e : Same G H) : ∀ (d : D) (v : V), noDct d = true → Rp K w G d v → Dp K H v d.py
  | .non, _, _, h => by
    simp only [Rp] at h
    subst h
    simp only [D.py]
    exact .non
  | .bl b, _, _, h => by
    simp only [Rp] at h
    subst h
    simp only [D.py]
    exact .bl b
  | .int b, _, _, h => by
    simp only [Rp] at h
    subst h
    simp only [D.py]
    exact .int b
  | .str b, _, _, h => by
    simp only [Rp] at h
    subst h
    simp only [D.py]
    exact .str b
  | .tup ds, v, n, h => by
    simp only [Rp] at h
    obtain ⟨a, vs, e1, h1, h2⟩ := h
    subst e1
    simp only [D.py]
    exact .tup (sqT_same e h1) (Rps.dp e ds vs (by simpa only [noDct] using n) h2)
  | .lst ds, v, n, h => by
    simp only [Rp] at h
    obtain ⟨a, vs, e1, h1, h2⟩ := h
    subst e1
    simp only [D.py]
    exact .lst (SqL.of (e _ _ h1)) (Rps.dp e ds vs (by simpa only [noDct] using n) h2)
  | .dct _, _, n, _ => by simp [noDct] at n
theorem Rps.dp (e : Same G H) : ∀ (ds : List D) (vs : List V), noDcts ds = true → Rps K w G ds vs → DpAll K H vs (D.pys ds)
  | [], _, _, h => by
    simp only [Rps] at h
    subst h
    simp only [D.pys]
    exact .nil
  | d :: ds, vs, n, h => by
    simp only [Rps] at h
    obtain ⟨v, r, e1, h1, h2⟩ := h
    subst e1
    simp only [noDcts, Bool.and_eq_true] at n
    simp only [D.pys]
    exact .cons (Rp.dp e d v n.1 h1) (Rps.dp e ds r n.2 h2)
end
theorem Rr.dp {S : Src} {d : D} {v : V} (e : Same G H) (n : noDct d = true) (h : Rr K w S G H d v) : Dp K H v d.py := by
  rcases h with h | ⟨a, e1, _, _, h⟩
  · exact Rp.dp e d v n h
  · cases d with
    | lst ds =>
      obtain ⟨vs, h1, h2⟩ := h
      subst e1
      simp only [D.py]
      exact .lst (SqL.of h1) (Rps.dp e ds vs (by simpa only [noDct] using n) h2)
    | dct _ => simp [noDct] at n
    | _ => exact h.elim
end
/-- data that == is asked of -/
def shp (d : D) : Bool := noDct d && SeqAt.shaped d.py
def gEq (a b : D) : Option D := if (shp a && shp b) = true then some (.bl (PyData.eqv a.py b.py)) else none
def gNe (a b : D) : Option D := if (shp a && shp b) = true then some (.bl (!PyData.eqv a.py b.py)) else none
section
variable {X : Cx} {S : Src}
theorem s_eq (hu : X.A.units + 64 < cLine) : OpS X S (compareOp .Eq) .val gEq := OpS.of (op_eqD hu) fun G H x y d e z Q wf r1 r2 hz k => by
  unfold gEq at hz
  split at hz
  · rename_i hs
    simp only [Option.some.injEq] at hz
    subst hz
    simp only [shp, Bool.and_eq_true] at hs
    exact ⟨d.py, e.py, r1.dp wf.gh hs.1.1, r2.dp wf.gh hs.2.1, hs.1.2, hs.2.2, k _ G H (Ext.refl wf) res_bl⟩
  · cases hz
theorem s_ne (hu : X.A.units + 64 < cLine) : OpS X S (compareOp .NotEq) .val gNe := OpS.of (op_neD hu) fun G H x y d e z Q wf r1 r2 hz k => by
  unfold gNe at hz
  split at hz
  · rename_i hs
    simp only [Option.some.injEq] at hz
    subst hz
    simp only [shp, Bool.and_eq_true] at hs
    exact ⟨d.py, e.py, r1.dp wf.gh hs.1.1, r2.dp wf.gh hs.2.1, hs.1.2, hs.2.2, k _ G H (Ext.refl wf) res_bl⟩
  · cases hz
/-- is None -/
def isNon : D → Bool
  | .non => true
  | _ => false
def gIsN : D → D → Option D
  | x, .non => some (.bl (isNon x))
  | _, _ => none
def gNotN : D → D → Option D
  | x, .non => some (.bl (!isNon x))
  | _, _ => none
theorem Rr.non_iff {K : PySem.W.Frag} {w : World} {G H : Hp} {d : D} {v : V} (h : Rr K w S G H d v) : decide (v = .non) = isNon d := by
  rcases h with h | ⟨a, e1, _, _, h⟩
  · cases d <;> simp only [Rp] at h
    case tup => obtain ⟨a, vs, e, _⟩ := h; subst e; simp [isNon]
    case lst => obtain ⟨a, vs, e, _⟩ := h; subst e; simp [isNon]
    case dct => obtain ⟨a, od, vs, e, _⟩ := h; subst e; simp [isNon]
    all_goals (subst h; simp [isNon])
  · subst e1
    cases d <;> first | exact h.elim | simp [isNon]
theorem s_isN : OpS X S (compareOp .Is) .val gIsN := OpS.of op_isN fun G H x y d e z Q wf r1 r2 hz k => by
  cases e <;> simp only [gIsN, reduceCtorEq, Option.some.injEq] at hz
  subst hz
  have e2 : y = .non := by
    rcases r2 with h | ⟨a, e1, _, _, h⟩
    · simpa only [Rp] using h
    · exact h.elim
  exact ⟨e2, by rw [r1.non_iff]; exact k _ G H (Ext.refl wf) res_bl⟩
theorem s_notN : OpS X S (compareOp .IsNot) .val gNotN := OpS.of op_notN fun G H x y d e z Q wf r1 r2 hz k => by
  cases e <;> simp only [gNotN, reduceCtorEq, Option.some.injEq] at hz
  subst hz
  have e2 : y = .non := by
    rcases r2 with h | ⟨a, e1, _, _, h⟩
    · simpa only [Rp] using h
    · exact h.elim
  refine ⟨e2, ?_⟩
  rw [r1.non_iff]
  exact k _ G H (Ext.refl wf) res_bl
/-- is True, is False -/
def gIsB : D → D → Option D
  | .bl a, .bl b => some (.bl (decide (a = b)))
  | _, _ => none
def gNotB : D → D → Option D
  | .bl a, .bl b => some (.bl (!decide (a = b)))
  | _, _ => none
theorem s_isB : OpS X S (compareOp .Is) .val gIsB := OpS.of op_isBl fun G H x y d e z Q wf r1 r2 hz k => by
  cases d <;> cases e <;> simp only [gIsB, reduceCtorEq, Option.some.injEq] at hz
  subst hz
  exact ⟨_, _, r1.bl, r2.bl, k _ G H (Ext.refl wf) res_bl⟩
theorem s_notB : OpS X S (compareOp .IsNot) .val gNotB := OpS.of op_notBl fun G H x y d e z Q wf r1 r2 hz k => by
  cases d <;> cases e <;> simp only [gNotB, reduceCtorEq, Option.some.injEq] at hz
  subst hz
  exact ⟨_, _, r1.bl, r2.bl, k _ G H (Ext.refl wf) res_bl⟩

/-! ### arguments -/
def aNil : Rho → M (List D) := fun _ => .ret []
def aCons (m : Rho → M D) (r : Rho → M (List D)) : Rho → M (List D) := fun ρ => (m ρ).bind fun x => (r ρ).bind fun xs => .ret (x :: xs)
def aStar (m : Rho → M D) (r : Rho → M (List D)) : Rho → M (List D) := fun ρ => (m ρ).bind fun x => match x with
  | .tup ys => (r ρ).bind fun xs => .ret (ys ++ xs)
  | .lst ys => (r ρ).bind fun xs => .ret (ys ++ xs)
  | _ => .fail
theorem a_nil : PAm X S [] aNil := pa_nil.imp fun σ H Q ⟨G0, H0, G, ρ, st, q⟩ => q [] G H (Ext.refl st.wf) Rps.nil
theorem a_cons {e : Expr} {es : List Expr} {m : Rho → M D} {r : Rho → M (List D)} (he : PEm X S e m) (hr : PAm X S es r) (hs : starEach (e :: es) X.env = (false, eval e X.env) :: starEach es X.env := by rfl) : PAm X S (e :: es) (aCons m r) :=
  (pa_cons he hr hs).imp fun σ H Q ⟨G0, H0, G, ρ, st, q⟩ => by
    refine ⟨G0, H0, G, ρ, st, wp_mono (wp_bind.mp q) fun d q1 v1 G1 H1 e1 r1 => ?_⟩
    refine ⟨G0, H0, G1, ρ, st.step e1, wp_mono (wp_bind.mp q1) fun ds q2 vs G2 H2 e2 r2 => ?_⟩
    exact q2 _ G2 H2 (e1.trans st.wf.src e2) (Rps.cons (Rp.same e2.gg _ _ r1) r2)
theorem a_star {e : Expr} {es : List Expr} {m : Rho → M D} {r : Rho → M (List D)} {p : Pos} (he : PEm X S e m) (hr : PAm X S es r) (hs : starEach (.Starred e p :: es) X.env = (true, eval e X.env) :: starEach es X.env := by rfl) : PAm X S (.Starred e p :: es) (aStar m r) :=
  (StX.pa_star he hr hs).imp fun σ H Q ⟨G0, H0, G, ρ, st, q⟩ => by
    refine ⟨G0, H0, G, ρ, st, wp_mono (wp_bind.mp q) fun d q1 v1 G1 H1 e1 r1 => ?_⟩
    have r1 : Rp X.K X.w G1 d v1 := r1
    cases d with
    | tup ys =>
      simp only [Rp] at r1
      obtain ⟨a, vs, rfl, h1, h2⟩ := r1
      refine ⟨a, vs, rfl, .inl (sqT_same e1.wf.gh h1), ⟨G0, H0, G1, ρ, st.step e1, wp_mono (wp_bind.mp q1) fun ds q2 us G2 H2 e2 r2 => ?_⟩⟩
      exact q2 _ G2 H2 (e1.trans st.wf.src e2) (Rps.append (Rps.same e2.gg _ _ h2) r2)
    | lst ys =>
      simp only [Rp] at r1
      obtain ⟨a, vs, rfl, h1, h2⟩ := r1
      refine ⟨a, vs, rfl, .inr (SqL.of (e1.wf.gh _ _ h1)), ⟨G0, H0, G1, ρ, st.step e1, wp_mono (wp_bind.mp q1) fun ds q2 us G2 H2 e2 r2 => ?_⟩⟩
      exact q2 _ G2 H2 (e1.trans st.wf.src e2) (Rps.append (Rps.same e2.gg _ _ h2) r2)
    | _ => exact q1.elim
def mTup (r : Rho → M (List D)) : Rho → M D := fun ρ => (r ρ).bind fun xs => .opt (if xs.length ≤ sizeLine then some (.tup xs) else none)
def mLst (r : Rho → M (List D)) : Rho → M D := fun ρ => (r ρ).bind fun xs => .opt (if xs.length ≤ sizeLine then some (.lst xs) else none)
theorem wp_ite {α : Type} {c : Prop} [Decidable c] {a : α} {Q : α → Prop} : wp (M.opt (if c then some a else none)) Q ↔ c ∧ Q a := by
  by_cases h : c
  · rw [if_pos h]
    exact ⟨fun q => ⟨h, q⟩, fun q => q.2⟩
  · rw [if_neg h]
    exact ⟨fun q => q.elim, fun q => absurd q.1 h⟩
theorem x_tup {es : List Expr} {n : Nat} {pos : Pos} {r : Rho → M (List D)} (h : PAm X S es r) : PEm X S (.Tuple es n pos) (mTup r) :=
  (pe_tup h).imp fun σ H Q ⟨G0, H0, G, ρ, st, q⟩ => by
    refine ⟨G0, H0, G, ρ, st, wp_mono (wp_bind.mp q) fun ds q1 vs G1 H1 e1 r1 => ?_⟩
    obtain ⟨hl, k⟩ := wp_ite.mp q1
    exact ⟨by rw [r1.length]; exact hl, fun p hp => k _ _ _ (e1.trans st.wf.src (Ext.lay e1.wf hp)) (res_tup (e1.wf.gh.free hp) r1)⟩
theorem f_lst {es : List Expr} {pos : Pos} {r : Rho → M (List D)} (h : PAm X S es r) : PEf X S (.List es pos) (mLst r) :=
  (pe_lst h).imp fun σ H Q ⟨G0, H0, G, ρ, st, q⟩ => by
    refine ⟨G0, H0, G, ρ, st, wp_mono (wp_bind.mp q) fun ds q1 vs G1 H1 e1 r1 => ?_⟩
    obtain ⟨hl, k⟩ := wp_ite.mp q1
    exact ⟨by rw [r1.length]; exact hl, fun p hp => k _ _ _ (e1.trans st.wf.src (Ext.own e1.wf hp)) ((show Res X.K X.w S H1 .fresh _ _ G1 (upd H1 p (.lst vs)) from ⟨p, rfl, hp, own_lst (e1.wf.gh.free hp) r1⟩).pull st.wf.src e1)⟩

/-! ### calls of built-ins, by data -/
def Rrs (K : PySem.W.Frag) (w : World) (S : Src) (G H : Hp) : List D → List V → Prop
  | [], vs => vs = []
  | d :: ds, vs => ∃ v r, vs = v :: r ∧ Rr K w S G H d v ∧ Rrs K w S G H ds r
theorem Rrs.ext {K : PySem.W.Frag} {w : World} {G H G' H' : Hp} (e : Ext S G H G' H') : ∀ {ds : List D} {vs : List V}, Rrs K w S G H ds vs → Rrs K w S G' H' ds vs
  | [], _, h => h
  | d :: ds, vs, h => by
    obtain ⟨v, r, e1, h1, h2⟩ := h
    exact ⟨v, r, e1, h1.ext e, Rrs.ext e h2⟩
def tAr (K : PySem.W.Frag) (w : World) (S : Src) (m : Rho → M (List D)) : TA := fun σ H Q =>
  ∃ G0 H0 G ρ, Stk K w S G0 H0 G ρ σ H ∧ wp (m ρ) fun ds => ∀ vs G' H', Ext S G H G' H' → Rrs K w S G' H' ds vs → Q vs H'
abbrev PAr (X : Cx) (S : Src) (es : List Expr) (m : Rho → M (List D)) : Prop := PA X es (tAr X.K X.w S m)
theorem ar_nil : PAr X S [] aNil := pa_nil.imp fun σ H Q ⟨G0, H0, G, ρ, st, q⟩ => q [] G H (Ext.refl st.wf) rfl
theorem ar_cons {e : Expr} {es : List Expr} {m : Rho → M D} {r : Rho → M (List D)} (he : PEr X S e m) (hr : PAr X S es r) (hs : starEach (e :: es) X.env = (false, eval e X.env) :: starEach es X.env := by rfl) : PAr X S (e :: es) (aCons m r) :=
  (pa_cons he hr hs).imp fun σ H Q ⟨G0, H0, G, ρ, st, q⟩ => by
    refine ⟨G0, H0, G, ρ, st, wp_mono (wp_bind.mp q) fun d q1 v1 G1 H1 e1 r1 => ?_⟩
    refine ⟨G0, H0, G1, ρ, st.step e1, wp_mono (wp_bind.mp q1) fun ds q2 vs G2 H2 e2 r2 => ?_⟩
    have r1' : Rr X.K X.w S G1 H1 d v1 := r1
    exact q2 _ G2 H2 (e1.trans st.wf.src e2) ⟨v1, vs, rfl, r1'.ext e2, r2⟩
def CallS (X : Cx) (S : Src) (f : Value) (md : Mode) (g : List D → Option D) : Prop :=
  CallR X f fun xs H Q => ∃ G ds r, Wf S G H ∧ Rrs X.K X.w S G H ds xs ∧ g ds = some r ∧ ∀ v G' H', Ext S G H G' H' → Res X.K X.w S H md r v G' H' → Q v H'
def mCall (g : List D → Option D) (m : Rho → M (List D)) : Rho → M D := fun ρ => (m ρ).bind fun xs => .opt (g xs)
theorem call_sound {md : Mode} {g : List D → Option D} {m : Rho → M (List D)} {σ : L2.St} {H : Hp} {Q : VK} (h : tE X.K X.w S md (mCall g m) σ H Q) :
    tAr X.K X.w S m σ H fun xs H1 => ∃ G ds r, Wf S G H1 ∧ Rrs X.K X.w S G H1 ds xs ∧ g ds = some r ∧ ∀ v G' H', Ext S G H1 G' H' → Res X.K X.w S H1 md r v G' H' → Q v H' := by
  obtain ⟨G0, H0, G, ρ, st, q⟩ := h
  refine ⟨G0, H0, G, ρ, st, wp_mono (wp_bind.mp q) fun ds q1 vs G1 H1 e1 r1 => ?_⟩
  obtain ⟨r, hr, k⟩ := wp_opt.mp q1
  exact ⟨G1, ds, r, e1.wf, r1, hr, fun v G' H' e2 r2 => k v G' H' (e1.trans st.wf.src e2) (r2.pull st.wf.src e1)⟩
theorem x_bi {x : Str} {id : String} {e : Expr} {es : List Expr} {p pos : Pos} {md : Mode} {g : List D → Option D} {m : Rho → M (List D)} (hc : CallS X S (.builtin id) md g) (hg : Gl X x) (hm : X.mg x = none) (hv : bootBuiltins x = some (.builtin id)) (ha : PAr X S (e :: es) m)
    (hn : x ≠ "__name__" := by decide) (hdb : (x == ("__debug__" : Str)) = false := by decide) (he : starEach (e :: es) X.env = (false, eval e X.env) :: starEach es X.env := by rfl) (hpl : (backTo pos (starEach es X.env)).any (·.1) = false := by rfl) :
    PEx X S md (.Call (.Name x p) (e :: es) [] pos) (mCall g m) :=
  (pe_callB (pos := pos) hc hg hm hv ha hn hdb he hpl).imp fun _ _ _ h => call_sound h
theorem x_ty {x : Str} {T : String} {e : Expr} {es : List Expr} {p pos : Pos} {md : Mode} {g : List D → Option D} {m : Rho → M (List D)} (hc : CallS X S (.type T) md g) (hg : Gl X x) (hm : X.mg x = none) (hv : bootBuiltins x = some (.type T)) (ha : PAr X S (e :: es) m)
    (hn : x ≠ "__name__" := by decide) (hdb : (x == ("__debug__" : Str)) = false := by decide) (he : starEach (e :: es) X.env = (false, eval e X.env) :: starEach es X.env := by rfl) (hpl : (backTo pos (starEach es X.env)).any (·.1) = false := by rfl) :
    PEx X S md (.Call (.Name x p) (e :: es) [] pos) (mCall g m) :=
  (pe_callTy (pos := pos) hc hg hm hv ha hn hdb he hpl).imp fun _ _ _ h => call_sound h
end
end PL

/-! PL5: statements, targets, loops -/
namespace PL
open PySem PySem.Spec PyProof.Rows L2

/-! ### the frame's state changed -/
section
variable {K : PySem.W.Frag} {w : World} {S : Src} {G0 H0 G H G' H' : Hp} {ρ : Rho} {σ : L2.St}
theorem get_set {α : Type} {l : List α} {i j : Nat} {x y : α} (h : (l.set i x)[j]? = some y) : (j = i ∧ y = x ∧ i < l.length) ∨ (j ≠ i ∧ l[j]? = some y) := by
  by_cases e : i = j
  · subst e
    by_cases hl : i < l.length
    · rw [List.getElem?_set_self hl] at h
      exact .inl ⟨rfl, (Option.some.inj h).symm, hl⟩
    · rw [List.getElem?_eq_none (by simpa using hl)] at h
      cases h
  · rw [List.getElem?_set_ne e] at h
    exact .inr ⟨fun z => e z.symm, h⟩
theorem Stk.setVal {i : Nat} {d : D} {v : V} (h : Stk K w S G0 H0 G ρ σ H) (r : Rp K w G d v) : Stk K w S G0 H0 G (ρ.set i (.val d)) (σ.set i (some v)) H where
  src0 := h.src0
  ext := h.ext
  len := by rw [List.length_set, List.length_set]; exact h.len
  slots := fun j s hs => by
    rcases get_set hs with ⟨e1, e2, e3⟩ | ⟨e1, e2⟩
    · subst e1 e2
      rw [List.getElem?_set_self (by rw [← h.len]; exact e3)]
      exact ⟨v, rfl, r⟩
    · rw [List.getElem?_set_ne (Ne.symm e1)]
      exact h.slots j s e2
  apart := fun a b d1 d2 hn h1 h2 => by
    rcases get_set h1 with ⟨_, e2, _⟩ | ⟨e1, e2⟩
    · cases e2
    · rcases get_set h2 with ⟨_, e4, _⟩ | ⟨e3, e4⟩
      · cases e4
      · rw [List.getElem?_set_ne (Ne.symm e1), List.getElem?_set_ne (Ne.symm e3)]
        exact h.apart a b d1 d2 hn e2 e4
theorem Ext.fresh {G H G' H' : Hp} {a : Addr} (e : Ext S G H G' H') (w0 : SrcAt S H) (ha : H' a = none) : H a = none := by
  cases q : H a with
  | none => rfl
  | some u =>
    by_cases hs : NotS S a
    · have := e.fr a u q hs
      rw [ha] at this
      cases this
    · exact absurd ha (e.wf.src.there hs)
theorem Stk.setOwn {i : Nat} {d : D} {a : Addr} (h0 : Stk K w S G0 H0 G ρ σ H) (e : Ext S G H G' H') (ha : H a = none) (o : OwnAt K w G' H' d a) : Stk K w S G0 H0 G' (ρ.set i (.own d)) (σ.set i (some (.ref a))) H' where
  src0 := h0.src0
  ext := (h0.step e).ext
  len := by rw [List.length_set, List.length_set]; exact h0.len
  slots := fun j s hs => by
    rcases get_set hs with ⟨e1, e2, e3⟩ | ⟨e1, e2⟩
    · subst e1 e2
      rw [List.getElem?_set_self (by rw [← h0.len]; exact e3)]
      exact ⟨a, rfl, h0.ext.fresh h0.src0 ha, o⟩
    · rw [List.getElem?_set_ne (Ne.symm e1)]
      exact (h0.step e).slots j s e2
  apart := fun x y d1 d2 hn h1 h2 => by
    have other : ∀ j d', j ≠ i → ρ[j]? = some (.own d') → σ[j]? ≠ some (some (.ref a)) := fun j d' _ hj hz => by
      obtain ⟨b, e1, _, ob⟩ := h0.slots j _ hj
      rw [hz] at e1
      cases e1
      obtain ⟨u, hu, _⟩ := ob.there
      rw [ha] at hu
      cases hu
    rcases get_set h1 with ⟨e1, e2, e3⟩ | ⟨e1, e2⟩
    · rcases get_set h2 with ⟨e4, e5, _⟩ | ⟨e4, e5⟩
      · exact absurd (e1.trans e4.symm) hn
      · subst e1
        rw [List.getElem?_set_self (by rw [← h0.len]; exact e3), List.getElem?_set_ne (Ne.symm e4)]
        exact Ne.symm (other y d2 e4 e5)
    · rcases get_set h2 with ⟨e4, e5, e6⟩ | ⟨e4, e5⟩
      · subst e4
        rw [List.getElem?_set_self (by rw [← h0.len]; exact e6), List.getElem?_set_ne (Ne.symm e1)]
        exact other x d1 e1 e2
      · rw [List.getElem?_set_ne (Ne.symm e1), List.getElem?_set_ne (Ne.symm e4)]
        exact h0.apart x y d1 d2 hn e2 e5
/-- an owned thing is changed -/
theorem Stk.mut {i : Nat} {d d' : D} {a : Addr} {o : HO} (h : Stk K w S G0 H0 G ρ σ H) (hi : ρ[i]? = some (.own d)) (ha : σ[i]? = some (some (.ref a))) (ho : OwnAt K w G (upd H a o) d' a) : Stk K w S G0 H0 G (ρ.set i (.own d')) σ (upd H a o) := by
  obtain ⟨b, e1, hb, ob⟩ := h.slots i _ hi
  rw [ha] at e1
  cases e1
  have hs := h.src0.notS hb
  have hg : G a = none := ho.1
  have il : i < ρ.length := (List.getElem?_eq_some_iff.mp hi).1
  refine ⟨h.src0, ⟨h.ext.gg, ⟨fun c o' q => ?_, fun p hp => ?_, h.wf.gs⟩, fun c o' q n => ?_, h.ext.new⟩, by rw [List.length_set]; exact h.len, fun j s hj => ?_, fun x y d1 d2 hn h1 h2 => ?_⟩
  · rw [upd_ne (ne_of_none q hg)]
    exact h.wf.gh _ _ q
  · obtain ⟨ne, cells, l, m, t, h1, h2, r⟩ := h.wf.src p hp
    obtain ⟨n1, n2⟩ := hs p hp
    exact ⟨ne, cells, l, m, t, by rw [upd_ne n1.symm]; exact h1, by rw [upd_ne n2.symm]; exact h2, r⟩
  · rw [upd_ne (ne_of_none q hb)]
    exact h.ext.fr c o' q n
  · rcases get_set hj with ⟨e1, e2, e3⟩ | ⟨e1, e2⟩
    · subst e1 e2
      exact ⟨a, ha, hb, ho⟩
    · have q := h.slots j s e2
      cases s with
      | no => trivial
      | val _ => exact q
      | src => exact q
      | scr _ => exact q
      | own d2 =>
        obtain ⟨c, e3, hc, oc⟩ := q
        have nc : c ≠ a := fun z => h.apart j i d2 d e1 e2 hi (by rw [e3, ha, z])
        refine ⟨c, e3, hc, oc.1, ?_⟩
        have oc2 := oc.2
        cases d2 with
        | lst ds => obtain ⟨vs, q1, q2⟩ := oc2; exact ⟨vs, by rw [upd_ne nc]; exact q1, q2⟩
        | dct ds => obtain ⟨vs, q1, q2⟩ := oc2; exact ⟨vs, by rw [upd_ne nc]; exact q1, q2⟩
        | _ => exact oc2.elim
  · have own' : ∀ (j : Nat) (e : D), (ρ.set i (.own d'))[j]? = some (.own e) → ∃ e', ρ[j]? = some (.own e') := fun j e q => by
      rcases get_set q with ⟨e1, e2, _⟩ | ⟨_, e2⟩
      · exact ⟨d, e1 ▸ hi⟩
      · exact ⟨e, e2⟩
    obtain ⟨f1, q1⟩ := own' x d1 h1
    obtain ⟨f2, q2⟩ := own' y d2 h2
    exact h.apart x y f1 f2 hn q1 q2
/-- an owned thing is frozen -/
def frz (i : Nat) (ρ : Rho) : Rho := match ρ[i]? with
  | some (.own d) => ρ.set i (.val d)
  | _ => ρ
theorem Stk.frz {i : Nat} (h : Stk K w S G0 H0 G ρ σ H) : (∃ G', Same G G' ∧ Stk K w S G0 H0 G' (frz i ρ) σ H) ∨ ∃ a u, H a = some u ∧ Mut (some u) ∧ ∀ od, ∃ G', Same G G' ∧ Stk K w S G0 H0 G' (PL.frz i ρ) σ (upd H a (.frz od u)) := by
  unfold PL.frz
  cases hi : ρ[i]? with
  | none => exact .inl ⟨G, Same.refl _, h⟩
  | some s =>
    cases s with
    | own d =>
      obtain ⟨a, e1, ha, oa⟩ := h.slots i _ hi
      have hg := oa.1
      have il : i < ρ.length := (List.getElem?_eq_some_iff.mp hi).1
      have rest : ∀ (H' : Hp) (o : HO), (∀ c, c ≠ a → H' c = H c) → Ext S G0 H0 (upd G a o) H' → Rp K w (upd G a o) d (.ref a) → Stk K w S G0 H0 (upd G a o) (ρ.set i (.val d)) σ H' := fun H' o hk hx hr => by
        refine ⟨h.src0, hx, by rw [List.length_set]; exact h.len, fun j s hj => ?_, fun x y d1 d2 hn h1 h2 => ?_⟩
        · rcases get_set hj with ⟨e2, e3, _⟩ | ⟨e2, e3⟩
          · subst e2 e3
            exact ⟨_, e1, hr⟩
          · have q := h.slots j s e3
            cases s with
            | no => trivial
            | val d2 => obtain ⟨v, q1, q2⟩ := q; exact ⟨v, q1, Rp.same (same_upd hg) _ _ q2⟩
            | src => exact q
            | scr ns => obtain ⟨b, q1, q2⟩ := q; exact ⟨b, q1, sqL_same (same_upd hg) q2⟩
            | own d2 =>
              obtain ⟨c, e4, hc, oc⟩ := q
              have nc : c ≠ a := fun z => h.apart j i d2 d e2 e3 hi (by rw [e4, e1, z])
              refine ⟨c, e4, hc, by rw [upd_ne nc]; exact oc.1, ?_⟩
              have oc2 := oc.2
              cases d2 with
              | lst ds => obtain ⟨vs, q1, q2⟩ := oc2; exact ⟨vs, by rw [hk c nc]; exact q1, Rps.same (same_upd hg) _ _ q2⟩
              | dct ds => obtain ⟨vs, q1, q2⟩ := oc2; exact ⟨vs, by rw [hk c nc]; exact q1, Rpk.same (same_upd hg) _ _ q2⟩
              | _ => exact oc2.elim
        · rcases get_set h1 with ⟨_, z, _⟩ | ⟨_, q1⟩
          · cases z
          · rcases get_set h2 with ⟨_, z, _⟩ | ⟨_, q2⟩
            · cases z
            · exact h.apart x y d1 d2 hn q1 q2
      cases d with
      | lst ds =>
        obtain ⟨_, vs, q1, q2⟩ := oa
        refine .inl ⟨upd G a (.lst vs), same_upd hg, rest H _ (fun _ _ => rfl) (h.ext.freeze h.src0 ha hg q1) ?_⟩
        exact res_lst hg q2
      | dct kvs =>
        obtain ⟨_, xs, q1, q2⟩ := oa
        refine .inr ⟨a, _, q1, trivial, fun od => ⟨upd G a (.frz od (DO w a xs)), same_upd hg, rest _ _ (fun c hc => upd_ne hc) (h.ext.relay h.src0 ha hg) ?_⟩⟩
        show Rp _ _ _ _ _
        simp only [Rp]
        exact ⟨a, od, xs, rfl, upd_same, Rpk.same (same_upd hg) _ _ q2⟩
      | _ => exact oa.2.elim
    | _ => exact .inl ⟨G, Same.refl _, h⟩
end

/-! ### what a statement leads to -/
inductive Out where
  | nx (ρ : Rho) | rt (d : D) | bk (ρ : Rho) | ct (ρ : Rho)
def OutOk (K : PySem.W.Frag) (w : World) (S : Src) (G0 H0 G : Hp) (E : Ends) : Out → Prop
  | .nx ρ => ∀ G' σ' H', Same G G' → Stk K w S G0 H0 G' ρ σ' H' → E.nx σ' H'
  | .rt d => ∀ v G' H', Ext S G0 H0 G' H' → Rp K w G' d v → E.rt v H'
  | .bk ρ => ∀ G' σ' H', Same G G' → Stk K w S G0 H0 G' ρ σ' H' → E.bk σ' H'
  | .ct ρ => ∀ G' σ' H', Same G G' → Stk K w S G0 H0 G' ρ σ' H' → E.ct σ' H'
theorem OutOk.up {K : PySem.W.Frag} {w : World} {S : Src} {G0 H0 G G' : Hp} {E : Ends} (e : Same G G') : ∀ {o : Out}, OutOk K w S G0 H0 G E o → OutOk K w S G0 H0 G' E o
  | .nx _, h => fun G2 σ' H' s => h G2 σ' H' (e.trans s)
  | .rt _, h => h
  | .bk _, h => fun G2 σ' H' s => h G2 σ' H' (e.trans s)
  | .ct _, h => fun G2 σ' H' s => h G2 σ' H' (e.trans s)
def tS (K : PySem.W.Frag) (w : World) (S : Src) (m : Rho → M Out) : TS := fun E σ H => ∃ G0 H0 G ρ, Stk K w S G0 H0 G ρ σ H ∧ wp (m ρ) (OutOk K w S G0 H0 G E)
abbrev PSm (X : Cx) (S : Src) (st : Stmt) (m : Rho → M Out) : Prop := PS X st (tS X.K X.w S m)
abbrev PBm (X : Cx) (S : Src) (st : List Stmt) (m : Rho → M Out) : Prop := PSs X st (tS X.K X.w S m)
def mSkip : Rho → M Out := fun ρ => .ret (.nx ρ)
def mSeq (a b : Rho → M Out) : Rho → M Out := fun ρ => (a ρ).bind fun o => match o with
  | .nx ρ' => b ρ'
  | o => .ret o
section
variable {X : Cx} {S : Src}
theorem b_nil : PBm X S [] mSkip := pss_nil.imp fun E σ H ⟨G0, H0, G, ρ, st, q⟩ => q G σ H (Same.refl _) st
theorem b_cons {st : Stmt} {rest : List Stmt} {a b : Rho → M Out} (h1 : PSm X S st a) (h2 : PBm X S rest b) : PBm X S (st :: rest) (mSeq a b) :=
  (pss_cons h1 h2).imp fun E σ H ⟨G0, H0, G, ρ, st, q⟩ => by
    refine ⟨G0, H0, G, ρ, st, wp_mono (wp_bind.mp q) fun o q1 => ?_⟩
    cases o with
    | nx ρ' => exact fun G' σ' H' s st' => ⟨G0, H0, G', ρ', st', wp_mono q1 fun o q2 => q2.up s⟩
    | rt d => exact q1
    | bk _ => exact q1
    | ct _ => exact q1
theorem b_one {st : Stmt} {a : Rho → M Out} (h1 : PSm X S st a) : PBm X S [st] a := pss_one h1
/-- a statement behind which slot i is no longer owned -/
def mFrz (i : Nat) (m : Rho → M Out) : Rho → M Out := fun ρ => m (frz i ρ)
theorem ps_locks {st : Stmt} {t : TS} (h : PS X st t) : PS X st (fun E σ H => t E σ H ∨ ∃ a u, H a = some u ∧ Mut (some u) ∧ ∀ od, t E σ (upd H a (.frz od u))) := by
  refine ⟨fun pins s σ H E I hw => ?_⟩
  rcases hw with hw | ⟨a, u, e, mu, hw⟩
  · exact h.run pins s σ H E I hw
  · obtain ⟨od, I2⟩ := I.lock e mu
    exact h.run pins s σ _ E I2 (hw od)
theorem s_frz (i : Nat) {st : Stmt} {m : Rho → M Out} (h : PSm X S st m) : PSm X S st (mFrz i m) :=
  (ps_locks h).imp fun E σ H ⟨G0, H0, G, ρ, st, q⟩ => by
    rcases st.frz (i := i) with ⟨G', s, st'⟩ | ⟨a, u, e, mu, k⟩
    · exact .inl ⟨G0, H0, G', _, st', wp_mono q fun o q2 => q2.up s⟩
    · refine .inr ⟨a, u, e, mu, fun od => ?_⟩
      obtain ⟨G', s, st'⟩ := k od
      exact ⟨G0, H0, G', _, st', wp_mono q fun o q2 => q2.up s⟩
def mRet (m : Rho → M D) : Rho → M Out := fun ρ => (m ρ).bind fun d => .ret (.rt d)
theorem s_ret {e : Expr} {pos : Pos} {m : Rho → M D} (he : PEm X S e m) : PSm X S (.Return (some e) pos) (mRet m) :=
  (ps_ret he).imp fun E σ H ⟨G0, H0, G, ρ, st, q⟩ => ⟨G0, H0, G, ρ, st, wp_mono (wp_bind.mp q) fun d q1 v G' H' x r => q1 v G' H' (st.step x).ext r⟩
def mSet (i : Nat) (m : Rho → M D) : Rho → M Out := fun ρ => (m ρ).bind fun d => .ret (.nx (ρ.set i (.val d)))
def mOwn (i : Nat) (m : Rho → M D) : Rho → M Out := fun ρ => (m ρ).bind fun d => .ret (.nx (ρ.set i (.own d)))
theorem s_set (i : Nat) {x : Str} {e : Expr} {m : Rho → M D} {pos pos' : Pos} (hN : X.N.Nodup) (he : PEm X S e m) (hi : X.N[i]? = some x := by rfl) (hx : Loc X.env.scope x := by first | exact Or.inl rfl | exact Or.inr rfl) (hs : swapsWith e (some (.Name x pos')) pos.line X.env = pure false := by rfl)
    (hf : X.fn x = true ∨ X.env.scope.names.lookup x = some .local := by first | exact .inl rfl | exact .inr rfl) : PSm X S (.Assign [.Name x pos'] e pos) (mSet i m) :=
  (ps_set hN hi hx he hs hf).imp fun E σ H ⟨G0, H0, G, ρ, st, q⟩ => ⟨G0, H0, G, ρ, st, wp_mono (wp_bind.mp q) fun d q1 v G' H' x r => q1 G' _ H' x.gg ((st.step x).setVal r)⟩
theorem s_own (i : Nat) {x : Str} {e : Expr} {m : Rho → M D} {pos pos' : Pos} (hN : X.N.Nodup) (he : PEf X S e m) (hi : X.N[i]? = some x := by rfl) (hx : Loc X.env.scope x := by first | exact Or.inl rfl | exact Or.inr rfl) (hs : swapsWith e (some (.Name x pos')) pos.line X.env = pure false := by rfl)
    (hf : X.fn x = true ∨ X.env.scope.names.lookup x = some .local := by first | exact .inl rfl | exact .inr rfl) : PSm X S (.Assign [.Name x pos'] e pos) (mOwn i m) :=
  (ps_set hN hi hx he hs hf).imp fun E σ H ⟨G0, H0, G, ρ, st, q⟩ => ⟨G0, H0, G, ρ, st, wp_mono (wp_bind.mp q) fun d q1 v G' H' x ⟨a, e1, n, o⟩ => by
    subst e1
    exact q1 G' _ H' x.gg (st.setOwn x n o)⟩
def mIfS (c : Rho → M Bool) (a b : Rho → M Out) : Rho → M Out := fun ρ => (c ρ).bind fun x => if x = true then a ρ else b ρ
theorem s_if {c : Expr} {a b : List Stmt} {pos : Pos} {mc : Rho → M Bool} {ma mb : Rho → M Out} (hc : PTm X S c mc) (ha : PBm X S a ma) (hb : PBm X S b mb) : PSm X S (.If c a b pos) (mIfS mc ma mb) :=
  (ps_if hc ha hb).imp fun E σ H ⟨G0, H0, G, ρ, st, q⟩ => by
    refine ⟨G0, H0, G, ρ, st, wp_mono (wp_bind.mp q) fun c q1 G' H' x => ?_⟩
    cases c with
    | true => exact ⟨G0, H0, G', ρ, st.step x, wp_mono q1 fun o q2 => q2.up x.gg⟩
    | false => exact ⟨G0, H0, G', ρ, st.step x, wp_mono q1 fun o q2 => q2.up x.gg⟩
theorem s_break {pos : Pos} : PSm X S (.Break pos) (fun ρ => .ret (.bk ρ)) := ps_break.imp fun E σ H ⟨G0, H0, G, ρ, st, q⟩ => q G σ H (Same.refl _) st
theorem s_continue {pos : Pos} : PSm X S (.Continue pos) (fun ρ => .ret (.ct ρ)) := ps_continue.imp fun E σ H ⟨G0, H0, G, ρ, st, q⟩ => q G σ H (Same.refl _) st
/-- n += e -/
def mAug (i : Nat) (m : Rho → M D) (f : Int → Int → Int) : Rho → M Out := fun ρ => match ρ[i]? with
  | some (.val (.int x)) => (m ρ).bind fun d => match d with
    | .int y => .ret (.nx (ρ.set i (.val (.int (f x y)))))
    | _ => .fail
  | _ => .fail
theorem s_aug (i : Nat) {x : Str} {e : Expr} {op : Operator} {f : Int → Int → Int} {m : Rho → M D} {pos pos' : Pos} (hN : X.N.Nodup) (he : PEm X S e m) (ho : PIp X op (ipI f)) (hi : X.N[i]? = some x := by rfl) (hx : Loc X.env.scope x := by first | exact Or.inl rfl | exact Or.inr rfl)
    (hf : X.fn x = true ∨ X.env.scope.names.lookup x = some .local := by first | exact .inl rfl | exact .inr rfl) : PSm X S (.AugAssign (.Name x pos') op e pos) (mAug i m f) :=
  (ps_aug hN hi hx he ho hf).imp fun E σ H ⟨G0, H0, G, ρ, st, q⟩ => by
    unfold mAug at q
    cases hi : ρ[i]? with
    | none => rw [hi] at q; exact q.elim
    | some s =>
      rw [hi] at q
      cases s with
      | val d =>
        cases d with
        | int x0 =>
          obtain ⟨v, e1, r⟩ := st.slots i _ hi
          simp only [Rp] at r
          subst r
          refine ⟨_, e1, G0, H0, G, ρ, st, wp_mono (wp_bind.mp q) fun d q1 v G' H' x r => ?_⟩
          cases d with
          | int y0 =>
            have r' : Rp X.K X.w G' (.int y0) v := r
            simp only [Rp] at r'
            exact ⟨x0, y0, rfl, r', q1 G' _ H' x.gg ((st.step x).setVal rp_int)⟩
          | _ => exact q1.elim
        | _ => exact q.elim
      | _ => exact q.elim

/-! ### targets -/
def OwnSub (ρ : Rho) (σ : L2.St) (ρ' : Rho) (σ' : L2.St) : Prop := ∀ (i : Nat) (d : D), ρ'[i]? = some (.own d) → ρ[i]? = some (.own d) ∧ σ'[i]? = σ[i]?
theorem OwnSub.refl (ρ : Rho) (σ : L2.St) : OwnSub ρ σ ρ σ := fun _ _ h => ⟨h, rfl⟩
theorem OwnSub.trans {ρ ρ1 ρ2 : Rho} {σ σ1 σ2 : L2.St} (a : OwnSub ρ σ ρ1 σ1) (b : OwnSub ρ1 σ1 ρ2 σ2) : OwnSub ρ σ ρ2 σ2 := fun i d h => by
  obtain ⟨h1, e1⟩ := b i d h
  obtain ⟨h2, e2⟩ := a i d h1
  exact ⟨h2, e1.trans e2⟩
theorem OwnSub.set {ρ : Rho} {σ : L2.St} (i : Nat) (s : Slot) (v : Option V) (hs : ∀ d, s ≠ .own d) : OwnSub ρ σ (ρ.set i s) (σ.set i v) := fun j d h => by
  rcases get_set h with ⟨_, e2, _⟩ | ⟨e1, e2⟩
  · exact absurd e2.symm (hs d)
  · exact ⟨e2, List.getElem?_set_ne (Ne.symm e1)⟩
abbrev Tgt := D → Rho → Option Rho
def tG (K : PySem.W.Frag) (w : World) (S : Src) (vs : List Nat) (g : Tgt) : TG := fun v σ H Q =>
  ∃ G0 H0 G ρ d ρ', Stk K w S G0 H0 G ρ σ H ∧ Rp K w G d v ∧ g d ρ = some ρ' ∧ ∀ σ', σ'.length = σ.length → (∀ j, j ∉ vs → σ'[j]? = σ[j]?) → OwnSub ρ σ ρ' σ' → Stk K w S G0 H0 G ρ' σ' H → Q σ' H
def tGs (K : PySem.W.Frag) (w : World) (S : Src) (vs : List Nat) (g : List D → Rho → Option Rho) : TGs := fun us σ H Q =>
  ∃ G0 H0 G ρ ds ρ', Stk K w S G0 H0 G ρ σ H ∧ Rps K w G ds us ∧ g ds ρ = some ρ' ∧ ∀ σ', σ'.length = σ.length → (∀ j, j ∉ vs → σ'[j]? = σ[j]?) → OwnSub ρ σ ρ' σ' → Stk K w S G0 H0 G ρ' σ' H → Q σ' H
abbrev PGm (X : Cx) (S : Src) (vs : List Nat) (tg : Expr) (g : Tgt) : Prop := PG X tg (tG X.K X.w S vs g)
abbrev PGsm (X : Cx) (S : Src) (vs : List Nat) (ts : List Expr) (g : List D → Rho → Option Rho) : Prop := PGs X ts (tGs X.K X.w S vs g)
theorem _root_.L2.PG.imp {e : Expr} {t t' : TG} (h : PG X e t) (i : ∀ v σ H Q, t' v σ H Q → t v σ H Q) : PG X e t' := ⟨fun pins s σ H v u Q I r q => h.run pins s σ H v u Q I r (i _ _ _ _ q)⟩
theorem _root_.L2.PGs.imp {e : List Expr} {t t' : TGs} (h : PGs X e t) (i : ∀ v σ H Q, t' v σ H Q → t v σ H Q) : PGs X e t' := ⟨fun pins s σ H v u Q I r q => h.run pins s σ H v u Q I r (i _ _ _ _ q)⟩
def gN (i : Nat) : Tgt := fun d ρ => some (ρ.set i (.val d))
def gTs : List D → Rho → Option Rho
  | [], ρ => some ρ
  | _ :: _, _ => none
def gTc (g : Tgt) (r : List D → Rho → Option Rho) : List D → Rho → Option Rho
  | [], _ => none
  | d :: ds, ρ => (g d ρ).bind (r ds)
def gT (n : Nat) (r : List D → Rho → Option Rho) : Tgt
  | .tup ds, ρ => if ds.length = n then r ds ρ else none
  | _, _ => none
theorem g_name (i : Nat) {vs : List Nat} {x : Str} {pos : Pos} (hN : X.N.Nodup) (hv : i ∈ vs := by simp) (hi : X.N[i]? = some x := by rfl) (hx : Loc X.env.scope x := by first | exact Or.inl rfl | exact Or.inr rfl)
    (hf : X.fn x = true ∨ X.env.scope.names.lookup x = some .local := by first | exact .inl rfl | exact .inr rfl) : PGm X S vs (.Name x pos) (gN i) :=
  (pg_name hN hi hx hf).imp fun v σ H Q ⟨G0, H0, G, ρ, d, ρ', st, r, hg, k⟩ => by
    simp only [gN, Option.some.injEq] at hg
    subst hg
    exact k _ (List.length_set ..) (fun j hj => List.getElem?_set_ne (show i ≠ j from fun z => hj (by rw [← z]; exact hv))) (OwnSub.set i _ _ (fun _ q => nomatch q)) (st.setVal r)
theorem gs_nil {vs : List Nat} : PGsm X S vs [] gTs :=
  pgs_nil.imp fun v σ H Q ⟨G0, H0, G, ρ, ds, ρ', st, r, hg, k⟩ => by
    cases ds with
    | nil =>
      simp only [gTs, Option.some.injEq] at hg
      subst hg
      simp only [Rps] at r
      exact ⟨r, k σ rfl (fun _ _ => rfl) (OwnSub.refl _ _) st⟩
    | cons d ds => simp [gTs] at hg
theorem gs_cons {vs : List Nat} {e : Expr} {es : List Expr} {g : Tgt} {r : List D → Rho → Option Rho} (h1 : PGm X S vs e g) (h2 : PGsm X S vs es r) (hs : (assignEach (e :: es) X.env).map (·.2) = assign e X.env :: (assignEach es X.env).map (·.2) := by rfl) : PGsm X S vs (e :: es) (gTc g r) :=
  (pgs_cons h1 h2 hs).imp fun v σ H Q ⟨G0, H0, G, ρ, ds, ρ', st, rr, hg, k⟩ => by
    cases ds with
    | nil => simp [gTc] at hg
    | cons d ds =>
      simp only [gTc, Option.bind_eq_some_iff] at hg
      obtain ⟨ρ1, hg1, hg2⟩ := hg
      simp only [Rps] at rr
      obtain ⟨v1, vr, e1, r1, r2⟩ := rr
      exact ⟨v1, vr, e1, G0, H0, G, ρ, d, ρ1, st, r1, hg1, fun σ1 hl1 hk1 o1 st1 => ⟨G0, H0, G, ρ1, ds, ρ', st1, r2, hg2, fun σ2 hl2 hk2 o2 st2 => k σ2 (hl2.trans hl1) (fun j hj => (hk2 j hj).trans (hk1 j hj)) (o1.trans o2) st2⟩⟩
theorem g_tup {vs : List Nat} {es : List Expr} {n k : Nat} {pos : Pos} {r : List D → Rho → Option Rho} (hc : X.calm = true) (h : PGsm X S vs es r) (hn : (assignEach es X.env).length = n := by rfl) (hst : (assignEach es X.env).findIdx? (·.1) = none := by rfl) : PGm X S vs (.Tuple es k pos) (gT n r) :=
  (pg_tup hc h hn hst).imp fun v σ H Q ⟨G0, H0, G, ρ, d, ρ', st, rr, hg, k⟩ => by
    cases d with
    | tup ds =>
      simp only [gT] at hg
      split at hg
      · rename_i hl
        simp only [Rp] at rr
        obtain ⟨a, us, e1, h1, h2⟩ := rr
        exact ⟨a, us, e1, sqT_same st.wf.gh h1, by rw [h2.length]; exact hl, G0, H0, G, ρ, ds, ρ', st, h2, hg, k⟩
      · cases hg
    | _ => simp [gT] at hg
/-- a, b = e -/
def mAsg (g : Tgt) (m : Rho → M D) : Rho → M Out := fun ρ => (m ρ).bind fun d => (M.opt (g d ρ)).bind fun ρ' => .ret (.nx ρ')
theorem s_asg {vs : List Nat} {tg e : Expr} {m : Rho → M D} {g : Tgt} {pos : Pos} (he : PEm X S e m) (hg : PGm X S vs tg g) (hs : swapsWithSole [tg] e pos.line X.env = pure false := by rfl) (hw : swappedStores [tg] e X.env = pure none := by rfl)
    (h1 : (assignEach [tg] X.env).map (·.2) = [assign tg X.env] := by rfl) : PSm X S (.Assign [tg] e pos) (mAsg g m) :=
  (ps_asg he hg hs hw h1).imp fun E σ H ⟨G0, H0, G, ρ, st, q⟩ => ⟨G0, H0, G, ρ, st, wp_mono (wp_bind.mp q) fun d q1 v G' H' x r => by
    obtain ⟨ρ', h1, q2⟩ := wp_opt.mp (wp_bind.mp q1)
    exact ⟨G0, H0, G', ρ, d, ρ', st.step x, r, h1, fun σ' _ _ _ st' => q2 G' σ' H' x.gg st'⟩⟩
/-- a, b = e1, e2 -/
def mPar (i j : Nat) (r : Rho → M (List D)) : Rho → M Out := fun ρ => (r ρ).bind fun ds => match ds with
  | [x, y] => .ret (.nx ((ρ.set i (.val x)).set j (.val y)))
  | _ => .fail
theorem s_par (i j : Nat) {x y : Str} {a b : Expr} {r : Rho → M (List D)} {px py pt pos : Pos} {kt k2 : Nat} {pt2 : Pos} (hc : X.calm = true) (hN : X.N.Nodup) (ha : PAm X S [a, b] r) (hi : X.N[i]? = some x := by rfl) (hj : X.N[j]? = some y := by rfl) (hij : i ≠ j := by decide)
    (hx : X.env.scope.names.lookup x = some .local := by rfl) (hy : X.env.scope.names.lookup y = some .local := by rfl)
    (hw : swappedStores [.Tuple [.Name x px, .Name y py] kt pt] (.Tuple [a, b] k2 pt2) X.env = pure (some [x, y]) := by rfl)
    (hs : swapsWithSole [.Tuple [.Name x px, .Name y py] kt pt] (.Tuple [a, b] k2 pt2) pos.line X.env = pure false := by rfl) :
    PSm X S (.Assign [.Tuple [.Name x px, .Name y py] kt pt] (.Tuple [a, b] k2 pt2) pos) (mPar i j r) :=
  (ps_par hc hN hi hj hij hx hy ha hw hs).imp fun E σ H ⟨G0, H0, G, ρ, st, q⟩ => ⟨G0, H0, G, ρ, st, wp_mono (wp_bind.mp q) fun ds q1 vs G' H' x rr => by
    match ds, q1 with
    | [d1, d2], q1 =>
      simp only [Rps] at rr
      obtain ⟨v1, r1, e1, p1, v2, r2, e2, p2, e3⟩ := rr
      subst e3 e2 e1
      exact ⟨v1, v2, rfl, q1 G' _ H' x.gg (((st.step x).setVal p1).setVal p2)⟩⟩

/-! ### for -/
structure ItOk (K : PySem.W.Frag) (w : World) (S : Src) (G1 : Hp) (ds : List D) (J : It) : Prop where
  go : ∀ i G H, Same G1 G → Wf S G H → i < ds.length → J.go i H
  yld : ∀ i G H v H', Same G1 G → Wf S G H → i < ds.length → J.yld i H v H' → ∃ d G', ds[i]? = some d ∧ Ext S G H G' H' ∧ Rp K w G' d v
  stop : ∀ G H, Same G1 G → Wf S G H → J.stop ds.length H
def tI (K : PySem.W.Frag) (w : World) (S : Src) (m : Rho → M (List D)) : TI := fun σ H R =>
  ∃ G0 H0 G ρ, Stk K w S G0 H0 G ρ σ H ∧ wp (m ρ) fun ds => ∀ J G' H', Ext S G H G' H' → ItOk K w S G' ds J → R J H'
abbrev PIm (X : Cx) (S : Src) (tg e : Expr) (m : Rho → M (List D)) : Prop := PI X tg e (tI X.K X.w S m)
theorem _root_.L2.PI.imp {tg e : Expr} {t t' : TI} (h : PI X tg e t) (i : ∀ σ H R, t' σ H R → t σ H R) : PI X tg e t' := ⟨fun pins s σ H R I q => h.run pins s σ H R I (i _ _ _ q)⟩
def forM (g : Tgt) (body : Rho → M Out) : List D → Rho → M Out
  | [], ρ => .ret (.nx ρ)
  | d :: ds, ρ => (M.opt (g d ρ)).bind fun ρ1 => (body ρ1).bind fun o => match o with
    | .nx ρ2 => forM g body ds ρ2
    | .ct ρ2 => forM g body ds ρ2
    | .bk ρ2 => .ret (.nx ρ2)
    | .rt d => .ret (.rt d)
def mFor (g : Tgt) (mi : Rho → M (List D)) (body : Rho → M Out) : Rho → M Out := fun ρ => (mi ρ).bind fun ds => forM g body ds ρ
theorem s_for {vs : List Nat} {tg iter : Expr} {body : List Stmt} {mi : Rho → M (List D)} {g : Tgt} {mb : Rho → M Out} {pos : Pos} (hp : PassesOwn (model X.prog X.w) X.A X.env X.xe) (hc : X.calm = true) (hi : PIm X S tg iter mi) (hg : PGm X S vs tg g) (hb : PBm X S body mb)
    (hs : ∀ x, foldedSetIterable iter X.env x = pure x := by intro _; rfl) : PSm X S (.For tg iter body [] pos) (mFor g mi mb) :=
  (ps_for hp hc hi hg hb hs).imp fun E σ H ⟨G0, H0, G, ρ, st, q⟩ => by
    refine ⟨G0, H0, G, ρ, st, wp_mono (wp_bind.mp q) fun ds q1 J G1 H1 x1 it => ?_⟩
    refine ⟨fun i m σ H => m = ds.length - i ∧ i ≤ ds.length ∧ ∃ G2 ρ, Same G1 G2 ∧ Stk X.K X.w S G0 H0 G2 ρ σ H ∧ wp (forM g mb (ds.drop i) ρ) (OutOk X.K X.w S G0 H0 G1 E), ⟨ds.length, rfl, Nat.zero_le _, G1, ρ, Same.refl _, st.step x1, wp_mono q1 fun o q2 => q2.up x1.gg⟩, ?_⟩
    rintro i m σ H ⟨rfl, hl, G2, ρ, s2, st2, q2⟩
    by_cases hlt : i < ds.length
    · refine .inr ⟨it.go i G2 H s2 st2.wf hlt, fun σ' H' => ∃ G3 ρ', Same G1 G3 ∧ Stk X.K X.w S G0 H0 G3 ρ' σ' H' ∧ wp (forM g mb (ds.drop (i + 1)) ρ') (OutOk X.K X.w S G0 H0 G1 E), fun σ' H' ⟨G3, ρ', s3, st3, q3⟩ => ⟨ds.length - (i + 1), by omega, rfl, hlt, G3, ρ', s3, st3, q3⟩, fun v H' y => ?_⟩
      obtain ⟨d, G3, hd, x3, r3⟩ := it.yld i G2 H v H' s2 st2.wf hlt y
      have ed : ds.drop i = d :: ds.drop (i + 1) := by
        obtain ⟨hl', e⟩ := List.getElem?_eq_some_iff.mp hd
        rw [List.drop_eq_getElem_cons hl', e]
      rw [ed] at q2
      obtain ⟨ρ1, hg1, q3⟩ := wp_opt.mp (wp_bind.mp q2)
      refine ⟨G0, H0, G3, ρ, d, ρ1, st2.step x3, r3, hg1, fun σ' _ _ _ st' => ⟨G0, H0, G3, ρ1, st', wp_mono (wp_bind.mp q3) fun o q4 => ?_⟩⟩
      have s3 : Same G1 G3 := s2.trans x3.gg
      cases o with
      | nx ρ2 => exact fun G4 σ4 H4 s4 st4 => ⟨G4, ρ2, s3.trans s4, st4, q4⟩
      | ct ρ2 => exact fun G4 σ4 H4 s4 st4 => ⟨G4, ρ2, s3.trans s4, st4, q4⟩
      | bk ρ2 => exact fun G4 σ4 H4 s4 st4 => q4 G4 σ4 H4 (s3.trans s4) st4
      | rt d => exact q4
    · have e : i = ds.length := by omega
      subst e
      rw [List.drop_length] at q2
      exact .inl ⟨it.stop G2 H s2 st2.wf, q2 G2 σ H s2 st2⟩
/-! ### while -/
def whileM (c : Rho → M Bool) (body : Rho → M Out) : Nat → Rho → M Out
  | 0, _ => .fail
  | n + 1, ρ => (c ρ).bind fun b => if b = true then (body ρ).bind fun o => match o with
      | .nx ρ2 => whileM c body n ρ2
      | .ct ρ2 => whileM c body n ρ2
      | .bk ρ2 => .ret (.nx ρ2)
      | .rt d => .ret (.rt d)
    else .ret (.nx ρ)
theorem s_while (n : Nat) {c : Expr} {body : List Stmt} {mc : Rho → M Bool} {mb : Rho → M Out} {pos : Pos} (hp : PassesOwn (model X.prog X.w) X.A X.env X.xe) (hc : PTm X S c mc) (hb : PBm X S body mb) : PSm X S (.While c body [] pos) (whileM mc mb n) :=
  (ps_while hp hc hb).imp fun E σ H ⟨G0, H0, G, ρ, st, q⟩ => by
    refine ⟨fun m σ H => ∃ G2 ρ, Same G G2 ∧ Stk X.K X.w S G0 H0 G2 ρ σ H ∧ wp (whileM mc mb m ρ) (OutOk X.K X.w S G0 H0 G E), ⟨n, G, ρ, Same.refl _, st, q⟩, ?_⟩
    rintro m σ H ⟨G2, ρ, s2, st2, q2⟩
    cases m with
    | zero => exact q2.elim
    | succ m =>
      refine ⟨G0, H0, G2, ρ, st2, wp_mono (wp_bind.mp q2) fun b q3 G3 H3 x3 => ?_⟩
      have s3 : Same G G3 := s2.trans x3.gg
      cases b with
      | true =>
        refine ⟨fun σ' H' => ∃ G4 ρ', Same G G4 ∧ Stk X.K X.w S G0 H0 G4 ρ' σ' H' ∧ wp (whileM mc mb m ρ') (OutOk X.K X.w S G0 H0 G E), fun σ' H' h => ⟨m, Nat.lt_succ_self _, h⟩, G0, H0, G3, ρ, st2.step x3, wp_mono (wp_bind.mp q3) fun o q4 => ?_⟩
        cases o with
        | nx ρ2 => exact fun G4 σ4 H4 s4 st4 => ⟨G4, ρ2, s3.trans s4, st4, q4⟩
        | ct ρ2 => exact fun G4 σ4 H4 s4 st4 => ⟨G4, ρ2, s3.trans s4, st4, q4⟩
        | bk ρ2 => exact fun G4 σ4 H4 s4 st4 => q4 G4 σ4 H4 (s3.trans s4) st4
        | rt d => exact q4
      | false => exact q3 G3 σ H3 s3 (st2.step x3)
end
end PL

/-! PL6: what is walked: lists, tuples, dicts' keys, ranges, enumerate, zip -/
namespace PL
open PySem PySem.Spec PyProof.Rows L2

/-! ### sequences of either kind -/
def SqK (t : Bool) (K : PySem.W.Frag) (H : Hp) (a : Addr) (xs : List V) : Prop := if t = true then SqT K H a xs else SqL K H a xs
def ItC (t : Bool) (h : Heap) (it a : Addr) (i : Nat) : Prop := if t = true then h.IsTupleIter it a i else h.IsListIter it a i
def IsK (t : Bool) (h : Heap) (a : Addr) (its : Array Value) : Prop := if t = true then h.IsTuple a its else h.IsList a its
theorem SqK.same {t : Bool} {K : PySem.W.Frag} {H H' : Hp} {a : Addr} {xs : List V} (e : Same H H') (h : SqK t K H a xs) : SqK t K H' a xs := by
  cases t with
  | true => exact sqT_same e h
  | false => exact e.seq h
section
variable {X : Cx} {pins : List (Addr × Obj)} {σ : L2.St} {H : Hp} {s : Shared} {a : Addr} {xs ys : List V}
theorem SqK.get {t : Bool} (I : Inv X pins σ H s) (h : SqK t X.K H a xs) : ∃ its : List Value, Vals xs its ∧ IsK t s.heap a its.toArray ∧ a < s.heap.objs.size := by
  cases t with
  | true =>
    obtain ⟨its, r, p, _⟩ := I.tuple h
    exact ⟨its, r, (show s.heap.IsTuple a its.toArray from p), p.lt⟩
  | false =>
    obtain ⟨its, r, p, _⟩ := I.list h
    exact ⟨its, r, p.isList, p.lt⟩
theorem SqK.inj {t : Bool} (I : Inv X pins σ H s) (h : SqK t X.K H a xs) (h' : SqK t X.K H a ys) : xs = ys := by
  cases t with
  | true => exact I.tuple_inj h h'
  | false => exact I.list_inj h h'
end
def begObj (t : Bool) (a : Addr) : Obj := if t = true then { cls := .type "tuple_iterator", data := .fields #[.ref a, .int 0 0] } else { cls := .type "list_iterator", data := .fields #[.ref a, .int 0 0] }
theorem begK (t : Bool) (a : Addr) (items : Array Value) : Begins (.ref a) (begObj t a) fun h => IsK t h a items := by
  cases t with
  | true => exact begins_tuple a items
  | false => exact begins_list a items
theorem begK_it {t : Bool} {h : Heap} {a it : Addr} (e : h.get? it = some (begObj t a)) : ItC t h it a 0 := by
  cases t with
  | true => exact ⟨_, e, rfl, rfl⟩
  | false => exact ⟨_, e, rfl, rfl⟩
theorem drawK {P : Program} {w : World} {A : Around} (t : Bool) (hh : A.handled = none) (it a : Addr) (hne : a ≠ it) (items : Array Value) :
    Draws P w A it [it, a] items.size (fun i v => items[i]? = some v) (fun i h => ItC t h it a i ∧ IsK t h a items) := by
  cases t with
  | true => exact Draws.tuple hh it a hne items
  | false => exact Draws.list hh it a hne items
theorem ItC.obj {t : Bool} {h : Heap} {it a : Addr} {i : Nat} (x : ItC t h it a i) : ∃ o, h.get? it = some o ∧ ∀ v, o.data ≠ .cell v := by
  cases t with
  | true => obtain ⟨o, e, c, d⟩ := x; exact ⟨o, e, fun v z => by rw [d] at z; cases z⟩
  | false => obtain ⟨o, e, c, d⟩ := x; exact ⟨o, e, fun v z => by rw [d] at z; cases z⟩
theorem ItC.keep {t : Bool} {h h' : Heap} {it a : Addr} {i : Nat} (x : ItC t h it a i) (k : ∀ o, h.get? it = some o → h'.get? it = some o) : ItC t h' it a i := by
  cases t with
  | true => exact Heap.IsTupleIter.at x k
  | false => exact Heap.IsListIter.at x k

/-! ### tuples handed out, new each -/
/-- at turn i: a new tuple of what f tells -/
def Itz (ok : Nat → Hp → Prop) (f : Nat → Hp → List V → Prop) (stop : Nat → Hp → Prop) : It :=
  ⟨ok, fun i H v H' => ∃ T vals, v = .ref T ∧ H T = none ∧ H' = upd H T (.tup vals) ∧ f i H vals, stop⟩
def go2 (K : PySem.W.Frag) (t1 t2 : Bool) (a b : Addr) (i : Nat) (H : Hp) : Prop := ∃ xs ys, SqK t1 K H a xs ∧ SqK t2 K H b ys ∧ i < min xs.length ys.length
def it2 (K : PySem.W.Frag) (t1 t2 : Bool) (a b : Addr) (i : Nat) (H : Hp) (vals : List V) : Prop := ∃ x y, vals = [x, y] ∧ (∀ xs, SqK t1 K H a xs → xs[i]? = some x) ∧ ∀ ys, SqK t2 K H b ys → ys[i]? = some y
def stop2 (K : PySem.W.Frag) (t1 t2 : Bool) (a b : Addr) (i : Nat) (H : Hp) : Prop := ∃ xs ys, SqK t1 K H a xs ∧ SqK t2 K H b ys ∧ i = min xs.length ys.length
theorem vals_get {xs : List V} {its : List Value} {i : Nat} {u : Value} (r : Vals xs its) (e : its.toArray[i]? = some u) : ∃ x, xs[i]? = some x ∧ RelV x u := by
  have e' : its[i]? = some u := by simpa using e
  cases q : xs[i]? with
  | none =>
    have := r.none_of q
    rw [e'] at this
    cases this
  | some x =>
    obtain ⟨u', h1, h2⟩ := r.get q
    rw [e'] at h1
    cases h1
    exact ⟨x, rfl, h2⟩
theorem sub2 {N c : Addr} (h : c ∈ [N + 4, N + 3, N, N + 1]) : c ∈ [N + 4, N + 2, N + 3, N, N + 1] := by
  simp only [List.mem_cons, List.not_mem_nil, or_false] at h ⊢
  rcases h with h | h | h | h
  · exact .inl h
  · exact .inr (.inr (.inl h))
  · exact .inr (.inr (.inr (.inl h)))
  · exact .inr (.inr (.inr (.inr h)))
theorem turn_zip2 {P : Program} {w : World} {K : PySem.W.Frag} {elts : List Expr} {kk : Nat} {tpos : Pos} {N : Addr} {t1 t2 : Bool} {a b : Addr} (la : a < N) (lb : b < N) :
    Turn P w K (.Tuple elts kk tpos) (Itz (go2 K t1 t2 a b) (it2 K t1 t2 a b) (stop2 K t1 t2 a b)) [N + 4, N + 2, N + 3, N, N + 1] (N + 4)
      (fun i h => IsZip h (N + 4) (N + 2) (N + 3) .none ∧ IsTupOf2 h (N + 2) (.ref N) (.ref (N + 1)) ∧ (∃ a1 a2, IsTupOf2 h (N + 3) a1 a2) ∧ ItC t1 h N a i ∧ ItC t2 h (N + 1) b i) where
  mem := by simp
  obj := fun i h ⟨z, TI, ⟨_, _, TO⟩, c1, c2⟩ c hc => by
    simp only [List.mem_cons, List.not_mem_nil, or_false] at hc
    rcases hc with rfl | rfl | rfl | rfl | rfl
    · exact ⟨_, z, fun v q => nomatch q⟩
    · exact ⟨_, TI, fun v q => nomatch q⟩
    · exact ⟨_, TO, fun v q => nomatch q⟩
    · exact c1.obj
    · exact c2.obj
  keep := fun i h h' ⟨z, TI, ⟨a1, a2, TO⟩, c1, c2⟩ k =>
    ⟨k _ (by simp) _ z, k _ (by simp) _ TI, ⟨a1, a2, k _ (by simp) _ TO⟩, c1.keep fun o e => k _ (by simp) o e, c2.keep fun o e => k _ (by simp) o e⟩
  item := by
    intro X hP hw hK hc i pins s σ H E I hf st hg
    subst hP hw hK
    obtain ⟨xs, ys, hx, hy, hi⟩ := hg
    obtain ⟨z, TI, TO, c1, c2⟩ := st
    obtain ⟨its, r1, p1, _⟩ := hx.get I
    obtain ⟨jts, r2, p2, _⟩ := hy.get I
    have hh := I.ok.hd hc
    have W := GoesN.zip2 (elts := elts) (x1 := kk) (pos := tpos) (zip_sep2 (N := N) (fp1 := [a]) (fp2 := [b]) (fun c hc => by simp at hc; rw [hc]; exact la) (fun c hc => by simp at hc; rw [hc]; exact lb))
      (drawK (P := X.prog) (w := X.w) (A := X.A.in1) t1 hh N a (Nat.ne_of_lt la) its.toArray) (drawK (P := X.prog) (w := X.w) (A := X.A.in1) t2 hh (N + 1) b (show (b : Nat) ≠ N + 1 from Nat.ne_of_lt (Nat.lt_succ_of_lt lb)) jts.toArray)
    have hl1 : its.toArray.size = xs.length := by rw [List.size_toArray]; exact r1.length.symm
    have hl2 : jts.toArray.size = ys.length := by rw [List.size_toArray]; exact r2.length.symm
    refine wpAny_mono (W.goes i s (fun v s2 => ∃ x H', Inv X pins σ H' s2 ∧ RelV x v ∧ (Itz (go2 X.K t1 t2 a b) (it2 X.K t1 t2 a b) (stop2 X.K t1 t2 a b)).yld i H x H' ∧ (IsZip s2.heap (N + 4) (N + 2) (N + 3) .none ∧ IsTupOf2 s2.heap (N + 2) (.ref N) (.ref (N + 1)) ∧ (∃ a1 a2, IsTupOf2 s2.heap (N + 3) a1 a2) ∧ ItC t1 s2.heap N a (i + 1) ∧ ItC t2 s2.heap (N + 1) b (i + 1)) ∧ ∀ c ∈ [N + 4, N + 2, N + 3, N, N + 1], H' c = none) E (by rw [hl1, hl2]; exact hi) ⟨z, TI, TO, ⟨c1, p1⟩, ⟨c2, p2⟩⟩ ?_) (fun r s1 ⟨v, e, q⟩ => ⟨v, e, q⟩) fun _ _ q => q
    rintro v h' tk ⟨T, x, y, rfl, hT, hx', hy', htup⟩ ⟨z', TI', TO', ⟨c1', _⟩, ⟨c2', _⟩⟩ hk _
    obtain ⟨vx, ex, rx⟩ := vals_get r1 hx'
    obtain ⟨vy, ey, ry⟩ := vals_get r2 hy'
    obtain ⟨o, ho, hcls, n, hdat⟩ := id htup
    have new : ObjOk X.prog X.w (upd H T (.tup [vx, vy])) h' T (.tup [vx, vy]) := ⟨by show 2 ≤ sizeLine; decide, [x, y], .cons rx (.cons ry .nil), ⟨o, ho, hcls, n, hdat⟩⟩
    have I1 := I.turnedNew (t' := tk) (ch := [N + 4, N + 3, N, N + 1]) hk (fun c hc => hf c (sub2 hc)) hT new
    have hTn : H T = none := I.hok.fresh hT
    refine ⟨.ref T, _, I1, rfl, ⟨T, [vx, vy], rfl, hTn, rfl, vx, vy, rfl, fun xs' hx2 => by rw [hx2.inj I hx]; exact ex, fun ys' hy2 => by rw [hy2.inj I hy]; exact ey⟩, ⟨z', TI', TO', c1', c2'⟩, fun c hc => ?_⟩
    have hcn := (hf c hc).1
    obtain ⟨oc, hoc, _⟩ : ∃ oc, s.heap.get? c = some oc ∧ True := by
      simp only [List.mem_cons, List.not_mem_nil, or_false] at hc
      obtain ⟨_, _, TO1⟩ := TO
      rcases hc with rfl | rfl | rfl | rfl | rfl
      · exact ⟨_, z, trivial⟩
      · exact ⟨_, TI, trivial⟩
      · exact ⟨_, TO1, trivial⟩
      · obtain ⟨o, e, _⟩ := c1.obj; exact ⟨o, e, trivial⟩
      · obtain ⟨o, e, _⟩ := c2.obj; exact ⟨o, e, trivial⟩
    rw [upd_ne (Nat.ne_of_lt (Nat.lt_of_lt_of_le (Heap.lt_size hoc) hT))]
    exact hcn
  done := by
    intro X hP hw hK hc i pins s σ H E I hf st hg
    subst hP hw hK
    obtain ⟨xs, ys, hx, hy, hi⟩ := hg
    obtain ⟨z, TI, TO, c1, c2⟩ := st
    obtain ⟨its, r1, p1, _⟩ := hx.get I
    obtain ⟨jts, r2, p2, _⟩ := hy.get I
    have hh := I.ok.hd hc
    have W := GoesN.zip2 (elts := elts) (x1 := kk) (pos := tpos) (zip_sep2 (N := N) (fp1 := [a]) (fp2 := [b]) (fun c hc => by simp at hc; rw [hc]; exact la) (fun c hc => by simp at hc; rw [hc]; exact lb))
      (drawK (P := X.prog) (w := X.w) (A := X.A.in1) t1 hh N a (Nat.ne_of_lt la) its.toArray) (drawK (P := X.prog) (w := X.w) (A := X.A.in1) t2 hh (N + 1) b (show (b : Nat) ≠ N + 1 from Nat.ne_of_lt (Nat.lt_succ_of_lt lb)) jts.toArray)
    have hl1 : its.toArray.size = xs.length := by rw [List.size_toArray]; exact r1.length.symm
    have hl2 : jts.toArray.size = ys.length := by rw [List.size_toArray]; exact r2.length.symm
    refine W.stops s (fun s2 => Inv X pins σ H s2) E ?_ fun h' tk hk _ => I.turnedL (t' := tk) (ch := [N + 4, N + 3, N, N + 1]) hk fun c hc => hf c (sub2 hc)
    rw [hl1, hl2, ← hi]
    exact ⟨z, TI, TO, ⟨c1, p1⟩, ⟨c2, p2⟩⟩
  self := fun A i s Q E st h => PySem.wpAny_pyIter_zip st.1 h

def go3 (K : PySem.W.Frag) (t1 t2 t3 : Bool) (a b c : Addr) (i : Nat) (H : Hp) : Prop := ∃ xs ys zs, SqK t1 K H a xs ∧ SqK t2 K H b ys ∧ SqK t3 K H c zs ∧ i < min (min xs.length ys.length) zs.length
def it3 (K : PySem.W.Frag) (t1 t2 t3 : Bool) (a b c : Addr) (i : Nat) (H : Hp) (vals : List V) : Prop := ∃ x y z, vals = [x, y, z] ∧ (∀ xs, SqK t1 K H a xs → xs[i]? = some x) ∧ (∀ ys, SqK t2 K H b ys → ys[i]? = some y) ∧ ∀ zs, SqK t3 K H c zs → zs[i]? = some z
def stop3 (K : PySem.W.Frag) (t1 t2 t3 : Bool) (a b c : Addr) (i : Nat) (H : Hp) : Prop := ∃ xs ys zs, SqK t1 K H a xs ∧ SqK t2 K H b ys ∧ SqK t3 K H c zs ∧ i = min (min xs.length ys.length) zs.length
theorem sub3 {N c : Addr} (h : c ∈ [N + 5, N + 4, N, N + 1, N + 2]) : c ∈ [N + 5, N + 3, N + 4, N, N + 1, N + 2] := by
  simp only [List.mem_cons, List.not_mem_nil, or_false] at h ⊢
  rcases h with h | h | h | h | h
  · exact .inl h
  · exact .inr (.inr (.inl h))
  · exact .inr (.inr (.inr (.inl h)))
  · exact .inr (.inr (.inr (.inr (.inl h))))
  · exact .inr (.inr (.inr (.inr (.inr h))))
theorem turn_zip3 {P : Program} {w : World} {K : PySem.W.Frag} {elts : List Expr} {kk : Nat} {tpos : Pos} {N : Addr} {t1 t2 t3 : Bool} {a b c : Addr} (la : a < N) (lb : b < N) (lc : c < N) :
    Turn P w K (.Tuple elts kk tpos) (Itz (go3 K t1 t2 t3 a b c) (it3 K t1 t2 t3 a b c) (stop3 K t1 t2 t3 a b c)) [N + 5, N + 3, N + 4, N, N + 1, N + 2] (N + 5)
      (fun i h => IsZip h (N + 5) (N + 3) (N + 4) .none ∧ IsTupOf3 h (N + 3) (.ref N) (.ref (N + 1)) (.ref (N + 2)) ∧ (∃ a1 a2 a3, IsTupOf3 h (N + 4) a1 a2 a3) ∧ ItC t1 h N a i ∧ ItC t2 h (N + 1) b i ∧ ItC t3 h (N + 2) c i) where
  mem := by simp
  obj := fun i h ⟨z, TI, ⟨_, _, _, TO⟩, c1, c2, c3⟩ e he => by
    simp only [List.mem_cons, List.not_mem_nil, or_false] at he
    rcases he with rfl | rfl | rfl | rfl | rfl | rfl
    · exact ⟨_, z, fun v q => nomatch q⟩
    · exact ⟨_, TI, fun v q => nomatch q⟩
    · exact ⟨_, TO, fun v q => nomatch q⟩
    · exact c1.obj
    · exact c2.obj
    · exact c3.obj
  keep := fun i h h' ⟨z, TI, ⟨a1, a2, a3, TO⟩, c1, c2, c3⟩ k =>
    ⟨k _ (by simp) _ z, k _ (by simp) _ TI, ⟨a1, a2, a3, k _ (by simp) _ TO⟩, c1.keep fun o e => k _ (by simp) o e, c2.keep fun o e => k _ (by simp) o e, c3.keep fun o e => k _ (by simp) o e⟩
  item := by
    intro X hP hw hK hc i pins s σ H E I hf st hg
    subst hP hw hK
    obtain ⟨xs, ys, zs, hx, hy, hz, hi⟩ := hg
    obtain ⟨z, TI, TO, c1, c2, c3⟩ := st
    obtain ⟨its, r1, p1, _⟩ := hx.get I
    obtain ⟨jts, r2, p2, _⟩ := hy.get I
    obtain ⟨kts, r3, p3, _⟩ := hz.get I
    have hh := I.ok.hd hc
    have W := GoesN.zip3 (elts := elts) (x1 := kk) (pos := tpos) (zip_sep3 (N := N) (fp1 := [a]) (fp2 := [b]) (fp3 := [c]) (fun e he => by simp at he; rw [he]; exact la) (fun e he => by simp at he; rw [he]; exact lb) (fun e he => by simp at he; rw [he]; exact lc))
      (drawK (P := X.prog) (w := X.w) (A := X.A.in1) t1 hh N a (Nat.ne_of_lt la) its.toArray) (drawK (P := X.prog) (w := X.w) (A := X.A.in1) t2 hh (N + 1) b (show (b : Nat) ≠ N + 1 from Nat.ne_of_lt (Nat.lt_succ_of_lt lb)) jts.toArray)
      (drawK (P := X.prog) (w := X.w) (A := X.A.in1) t3 hh (N + 2) c (show (c : Nat) ≠ N + 2 from Nat.ne_of_lt (Nat.lt_succ_of_lt (Nat.lt_succ_of_lt lc))) kts.toArray)
    have hl1 : its.toArray.size = xs.length := by rw [List.size_toArray]; exact r1.length.symm
    have hl2 : jts.toArray.size = ys.length := by rw [List.size_toArray]; exact r2.length.symm
    have hl3 : kts.toArray.size = zs.length := by rw [List.size_toArray]; exact r3.length.symm
    refine wpAny_mono (W.goes i s (fun v s2 => ∃ x H', Inv X pins σ H' s2 ∧ RelV x v ∧ (Itz (go3 X.K t1 t2 t3 a b c) (it3 X.K t1 t2 t3 a b c) (stop3 X.K t1 t2 t3 a b c)).yld i H x H' ∧ (IsZip s2.heap (N + 5) (N + 3) (N + 4) .none ∧ IsTupOf3 s2.heap (N + 3) (.ref N) (.ref (N + 1)) (.ref (N + 2)) ∧ (∃ a1 a2 a3, IsTupOf3 s2.heap (N + 4) a1 a2 a3) ∧ ItC t1 s2.heap N a (i + 1) ∧ ItC t2 s2.heap (N + 1) b (i + 1) ∧ ItC t3 s2.heap (N + 2) c (i + 1)) ∧ ∀ e ∈ [N + 5, N + 3, N + 4, N, N + 1, N + 2], H' e = none) E (by rw [hl1, hl2, hl3]; exact hi) ⟨z, TI, TO, ⟨c1, p1⟩, ⟨c2, p2⟩, ⟨c3, p3⟩⟩ ?_) (fun r s1 ⟨v, e, q⟩ => ⟨v, e, q⟩) fun _ _ q => q
    rintro v h' tk ⟨T, x, y, u, rfl, hT, hx', hy', hz', htup⟩ ⟨z', TI', TO', ⟨c1', _⟩, ⟨c2', _⟩, ⟨c3', _⟩⟩ hk _
    obtain ⟨vx, ex, rx⟩ := vals_get r1 hx'
    obtain ⟨vy, ey, ry⟩ := vals_get r2 hy'
    obtain ⟨vz, ez, rz⟩ := vals_get r3 hz'
    obtain ⟨o, ho, hcls, n, hdat⟩ := id htup
    have new : ObjOk X.prog X.w (upd H T (.tup [vx, vy, vz])) h' T (.tup [vx, vy, vz]) := ⟨by show 3 ≤ sizeLine; decide, [x, y, u], .cons rx (.cons ry (.cons rz .nil)), ⟨o, ho, hcls, n, hdat⟩⟩
    have I1 := I.turnedNew (t' := tk) (ch := [N + 5, N + 4, N, N + 1, N + 2]) hk (fun c hc => hf c (sub3 hc)) hT new
    have hTn : H T = none := I.hok.fresh hT
    refine ⟨.ref T, _, I1, rfl, ⟨T, [vx, vy, vz], rfl, hTn, rfl, vx, vy, vz, rfl, fun xs' hx2 => by rw [hx2.inj I hx]; exact ex, fun ys' hy2 => by rw [hy2.inj I hy]; exact ey, fun zs' hz2 => by rw [hz2.inj I hz]; exact ez⟩, ⟨z', TI', TO', c1', c2', c3'⟩, fun e he => ?_⟩
    have hcn := (hf e he).1
    obtain ⟨oc, hoc⟩ : ∃ oc, s.heap.get? e = some oc := by
      simp only [List.mem_cons, List.not_mem_nil, or_false] at he
      obtain ⟨_, _, _, TO1⟩ := TO
      rcases he with rfl | rfl | rfl | rfl | rfl | rfl
      · exact ⟨_, z⟩
      · exact ⟨_, TI⟩
      · exact ⟨_, TO1⟩
      · obtain ⟨o, e, _⟩ := c1.obj; exact ⟨o, e⟩
      · obtain ⟨o, e, _⟩ := c2.obj; exact ⟨o, e⟩
      · obtain ⟨o, e, _⟩ := c3.obj; exact ⟨o, e⟩
    rw [upd_ne (Nat.ne_of_lt (Nat.lt_of_lt_of_le (Heap.lt_size hoc) hT))]
    exact hcn
  done := by
    intro X hP hw hK hc i pins s σ H E I hf st hg
    subst hP hw hK
    obtain ⟨xs, ys, zs, hx, hy, hz, hi⟩ := hg
    obtain ⟨z, TI, TO, c1, c2, c3⟩ := st
    obtain ⟨its, r1, p1, _⟩ := hx.get I
    obtain ⟨jts, r2, p2, _⟩ := hy.get I
    obtain ⟨kts, r3, p3, _⟩ := hz.get I
    have hh := I.ok.hd hc
    have W := GoesN.zip3 (elts := elts) (x1 := kk) (pos := tpos) (zip_sep3 (N := N) (fp1 := [a]) (fp2 := [b]) (fp3 := [c]) (fun e he => by simp at he; rw [he]; exact la) (fun e he => by simp at he; rw [he]; exact lb) (fun e he => by simp at he; rw [he]; exact lc))
      (drawK (P := X.prog) (w := X.w) (A := X.A.in1) t1 hh N a (Nat.ne_of_lt la) its.toArray) (drawK (P := X.prog) (w := X.w) (A := X.A.in1) t2 hh (N + 1) b (show (b : Nat) ≠ N + 1 from Nat.ne_of_lt (Nat.lt_succ_of_lt lb)) jts.toArray)
      (drawK (P := X.prog) (w := X.w) (A := X.A.in1) t3 hh (N + 2) c (show (c : Nat) ≠ N + 2 from Nat.ne_of_lt (Nat.lt_succ_of_lt (Nat.lt_succ_of_lt lc))) kts.toArray)
    have hl1 : its.toArray.size = xs.length := by rw [List.size_toArray]; exact r1.length.symm
    have hl2 : jts.toArray.size = ys.length := by rw [List.size_toArray]; exact r2.length.symm
    have hl3 : kts.toArray.size = zs.length := by rw [List.size_toArray]; exact r3.length.symm
    refine W.stops s (fun s2 => Inv X pins σ H s2) E ?_ fun h' tk hk _ => I.turnedL (t' := tk) (ch := [N + 5, N + 4, N, N + 1, N + 2]) hk fun c hc => hf c (sub3 hc)
    rw [hl1, hl2, hl3, ← hi]
    exact ⟨z, TI, TO, ⟨c1, p1⟩, ⟨c2, p2⟩, ⟨c3, p3⟩⟩
  self := fun A i s Q E st h => PySem.wpAny_pyIter_zip st.1 h

/-! ### enumerate -/
def goE (K : PySem.W.Frag) (t : Bool) (a : Addr) (i : Nat) (H : Hp) : Prop := ∃ xs, SqK t K H a xs ∧ i < xs.length
def itE (K : PySem.W.Frag) (t : Bool) (a : Addr) (i : Nat) (H : Hp) (vals : List V) : Prop := ∃ x, vals = [.int (i : Int), x] ∧ ∀ xs, SqK t K H a xs → xs[i]? = some x
def stopE (K : PySem.W.Frag) (t : Bool) (a : Addr) (i : Nat) (H : Hp) : Prop := ∃ xs, SqK t K H a xs ∧ i = xs.length
theorem turn_en {P : Program} {w : World} {K : PySem.W.Frag} {elts : List Expr} {kk : Nat} {tpos : Pos} {N : Addr} {t : Bool} {a : Addr} (la : a < N) :
    Turn P w K (.Tuple elts kk tpos) (Itz (goE K t a) (itE K t a) (stopE K t a)) [N + 1, N] (N + 1)
      (fun i h => (∃ old, IsEnum h (N + 1) N (0 + (i : Int)) old) ∧ ItC t h N a i) where
  mem := by simp
  obj := fun i h ⟨⟨_, z⟩, c1⟩ e he => by
    simp only [List.mem_cons, List.not_mem_nil, or_false] at he
    rcases he with rfl | rfl
    · exact ⟨_, z, fun v q => nomatch q⟩
    · exact c1.obj
  keep := fun i h h' ⟨⟨o, z⟩, c1⟩ k => ⟨⟨o, k _ (by simp) _ z⟩, c1.keep fun o e => k _ (by simp) o e⟩
  item := by
    intro X hP hw hK hc i pins s σ H E I hf st hg
    subst hP hw hK
    obtain ⟨xs, hx, hi⟩ := hg
    obtain ⟨z, c1⟩ := st
    obtain ⟨its, r1, p1, _⟩ := hx.get I
    have hh := I.ok.hd hc
    have W := GoesN.enumFrom (elts := elts) (x1 := kk) (pos := tpos) 0 (drawK (P := X.prog) (w := X.w) (A := X.A.in1) t hh N a (Nat.ne_of_lt la) its.toArray) (N + 1) (Nat.succ_ne_self N)
      (fun hm => by
        simp only [List.mem_cons, List.not_mem_nil, or_false] at hm
        rcases hm with e | e
        · exact absurd e (Nat.succ_ne_self N)
        · exact absurd la (by rw [← e]; exact Nat.not_lt.mpr (Nat.le_succ _))) (by simp)
    have hl1 : its.toArray.size = xs.length := by rw [List.size_toArray]; exact r1.length.symm
    refine wpAny_mono (W.goes i s (fun v s2 => ∃ x H', Inv X pins σ H' s2 ∧ RelV x v ∧ (Itz (goE X.K t a) (itE X.K t a) (stopE X.K t a)).yld i H x H' ∧ ((∃ old, IsEnum s2.heap (N + 1) N (0 + ((i + 1 : Nat) : Int)) old) ∧ ItC t s2.heap N a (i + 1)) ∧ ∀ e ∈ [N + 1, N], H' e = none) E (by rw [hl1]; exact hi) ⟨z, c1, p1⟩ ?_) (fun r s1 ⟨v, e, q⟩ => ⟨v, e, q⟩) fun _ _ q => q
    rintro v h' tk ⟨T, tk2, x, rfl, hT, hx', htup⟩ ⟨z', c1', _⟩ hk _
    obtain ⟨vx, ex, rx⟩ := vals_get r1 hx'
    obtain ⟨o, ho, hcls, n, hdat⟩ := id htup
    have new : ObjOk X.prog X.w (upd H T (.tup [.int (i : Int), vx])) h' T (.tup [.int (i : Int), vx]) := ⟨by show 2 ≤ sizeLine; decide, _, .cons (show RelV (.int (i : Int)) (.int (0 + (i : Int)) tk2) from ⟨tk2, by rw [Int.zero_add]⟩) (.cons rx .nil), ⟨o, ho, hcls, n, hdat⟩⟩
    have I1 := I.turnedNew (t' := tk) (ch := [N + 1, N]) hk (fun c hc => hf c hc) hT new
    have hTn : H T = none := I.hok.fresh hT
    refine ⟨.ref T, _, I1, rfl, ⟨T, [.int (i : Int), vx], rfl, hTn, rfl, vx, rfl, fun xs' hx2 => by rw [hx2.inj I hx]; exact ex⟩, ⟨z', c1'⟩, fun e he => ?_⟩
    have hcn := (hf e he).1
    obtain ⟨oc, hoc⟩ : ∃ oc, s.heap.get? e = some oc := by
      simp only [List.mem_cons, List.not_mem_nil, or_false] at he
      obtain ⟨_, z1⟩ := z
      rcases he with rfl | rfl
      · exact ⟨_, z1⟩
      · obtain ⟨o, e, _⟩ := c1.obj; exact ⟨o, e⟩
    rw [upd_ne (Nat.ne_of_lt (Nat.lt_of_lt_of_le (Heap.lt_size hoc) hT))]
    exact hcn
  done := by
    intro X hP hw hK hc i pins s σ H E I hf st hg
    subst hP hw hK
    obtain ⟨xs, hx, hi⟩ := hg
    obtain ⟨z, c1⟩ := st
    obtain ⟨its, r1, p1, _⟩ := hx.get I
    have hh := I.ok.hd hc
    have W := GoesN.enumFrom (elts := elts) (x1 := kk) (pos := tpos) 0 (drawK (P := X.prog) (w := X.w) (A := X.A.in1) t hh N a (Nat.ne_of_lt la) its.toArray) (N + 1) (Nat.succ_ne_self N)
      (fun hm => by
        simp only [List.mem_cons, List.not_mem_nil, or_false] at hm
        rcases hm with e | e
        · exact absurd e (Nat.succ_ne_self N)
        · exact absurd la (by rw [← e]; exact Nat.not_lt.mpr (Nat.le_succ _))) (by simp)
    have hl1 : its.toArray.size = xs.length := by rw [List.size_toArray]; exact r1.length.symm
    refine W.stops s (fun s2 => Inv X pins σ H s2) E ?_ fun h' tk hk _ => I.turnedL (t' := tk) (ch := [N + 1, N]) hk fun c hc => hf c hc
    rw [hl1, ← hi]
    exact ⟨z, c1, p1⟩
  self := fun A i s Q E st h => by
    obtain ⟨⟨_, z⟩, _⟩ := st
    exact wpAny_pyIter_enum z h
end PL

/-! PL7: what is walked, by data -/
namespace PL
open PySem PySem.Spec PyProof.Rows L2
section
variable {X : Cx} {S : Src}
def seqOf : D → Option (List D)
  | .tup xs => some xs
  | .lst xs => some xs
  | _ => none
theorem seq_of {K : PySem.W.Frag} {w : World} {G : Hp} {d : D} {xs : List D} {v : V} (e : seqOf d = some xs) (h : Rp K w G d v) : ∃ (t : Bool) (a : Addr) (vs : List V), v = .ref a ∧ SqK t K G a vs ∧ Rps K w G xs vs := by
  cases d <;> simp only [seqOf, Option.some.injEq, reduceCtorEq] at e
  · subst e
    simp only [Rp] at h
    obtain ⟨a, vs, e, h1, h2⟩ := h
    exact ⟨true, a, vs, e, h1, h2⟩
  · subst e
    simp only [Rp] at h
    obtain ⟨a, vs, e, h1, h2⟩ := h
    exact ⟨false, a, vs, e, SqL.of h1, h2⟩
def pairD (a b : D) : D := .tup [a, b]
def trioD (a b c : D) : D := .tup [a, b, c]
def zip3D : List D → List D → List D → List D
  | a :: as, b :: bs, c :: cs => trioD a b c :: zip3D as bs cs
  | _, _, _ => []
theorem zip3D_len : ∀ (as bs cs : List D), (zip3D as bs cs).length = min (min as.length bs.length) cs.length
  | [], _, _ => by simp [zip3D]
  | _ :: _, [], _ => by simp [zip3D]
  | _ :: _, _ :: _, [] => by simp [zip3D]
  | _ :: as, _ :: bs, _ :: cs => by
    simp only [zip3D, List.length_cons, zip3D_len as bs cs]
    omega
theorem zip3D_get : ∀ {as bs cs : List D} {i : Nat} {a b c : D}, as[i]? = some a → bs[i]? = some b → cs[i]? = some c → (zip3D as bs cs)[i]? = some (trioD a b c)
  | [], _, _, _, _, _, _, h, _, _ => by simp at h
  | _ :: _, [], _, _, _, _, _, _, h, _ => by simp at h
  | _ :: _, _ :: _, [], _, _, _, _, _, _, h => by simp at h
  | _ :: as, _ :: bs, _ :: cs, 0, _, _, _, h1, h2, h3 => by
    simp at h1 h2 h3
    subst h1 h2 h3
    rfl
  | _ :: as, _ :: bs, _ :: cs, i + 1, _, _, _, h1, h2, h3 => by
    simp only [zip3D, List.getElem?_cons_succ] at h1 h2 h3 ⊢
    exact zip3D_get h1 h2 h3
def enumD : Nat → List D → List D
  | _, [] => []
  | i, x :: xs => pairD (.int (i : Int)) x :: enumD (i + 1) xs
theorem enumD_len : ∀ (k : Nat) (xs : List D), (enumD k xs).length = xs.length
  | _, [] => rfl
  | k, _ :: xs => by rw [enumD, List.length_cons, List.length_cons, enumD_len]
theorem enumD_get : ∀ {k : Nat} {xs : List D} {i : Nat} {x : D}, xs[i]? = some x → (enumD k xs)[i]? = some (pairD (.int ((k + i : Nat) : Int)) x)
  | _, [], _, _, h => by simp at h
  | k, y :: xs, 0, x, h => by
    simp at h
    subst h
    rfl
  | k, y :: xs, i + 1, x, h => by
    simp only [enumD, List.getElem?_cons_succ] at h ⊢
    rw [enumD_get h, show k + 1 + i = k + (i + 1) by omega]
theorem itz_ok {K : PySem.W.Frag} {w : World} {G1 : Hp} {ds : List D} {ok : Nat → Hp → Prop} {f : Nat → Hp → List V → Prop} {stop : Nat → Hp → Prop}
    (h1 : ∀ i H, Same G1 H → i < ds.length → ok i H) (h2 : ∀ i G H vals, Same G1 G → Same G H → f i H vals → ∃ xs, ds[i]? = some (.tup xs) ∧ Rps K w G xs vals) (h3 : ∀ H, Same G1 H → stop ds.length H) : ItOk K w S G1 ds (Itz ok f stop) where
  go := fun i G H s wf hi => h1 i H (s.trans wf.gh) hi
  yld := fun i G H v H' s wf _ ⟨T, vals, ev, hT, eH, hf⟩ => by
    obtain ⟨xs, hd, r⟩ := h2 i G H vals s wf.gh hf
    subst eH ev
    exact ⟨_, _, hd, Ext.lay wf hT, res_tup (wf.gh.free hT) r⟩
  stop := fun G H s wf => h3 H (s.trans wf.gh)
theorem sq_at {t : Bool} {K : PySem.W.Frag} {w : World} {G1 G H : Hp} {a : Addr} {vs : List V} {xs : List D} {i : Nat} {x : V} (h : SqK t K G1 a vs) (r : Rps K w G1 xs vs) (s : Same G1 G) (s2 : Same G H) (e : ∀ ys, SqK t K H a ys → ys[i]? = some x) : ∃ d, xs[i]? = some d ∧ Rp K w G d x := by
  have e1 := e vs (h.same (s.trans s2))
  cases q : xs[i]? with
  | none =>
    have hl : xs.length ≤ i := List.getElem?_eq_none_iff.mp q
    have := (List.getElem?_eq_some_iff.mp e1).1
    rw [r.length] at this
    omega
  | some d =>
    obtain ⟨v, h1, h2⟩ := r.get q
    rw [e1] at h1
    cases h1
    exact ⟨d, rfl, Rp.same s _ _ h2⟩

/-! ### a list, a tuple, a dict's keys -/
def itemsOf : D → M (List D)
  | .tup xs => .ret xs
  | .lst xs => .ret xs
  | .dct kvs => .ret (kvs.map fun kv => ofKey kv.1)
  | _ => .fail
/-- the keys of the locked dict -/
def Itdk (w : World) (d : Addr) (o : Obj) (xs : List (NestedKey × V × V)) : It :=
  ⟨fun i H => H d = some (.frz o (DO w d xs)) ∧ i < xs.length, fun i H x H' => H' = H ∧ ∃ k v, xs[i]? = some (k, x, v), fun i H => H d = some (.frz o (DO w d xs)) ∧ xs.length ≤ i⟩
theorem Inv.frzD {pins : List (Addr × Obj)} {σ : L2.St} {H : Hp} {s : Shared} {d : Addr} {o : Obj} {xs : List (NestedKey × V × V)} (I : Inv X pins σ H s) (h : H d = some (.frz o (DO X.w d xs))) :
    (d == sysModules) = false ∧ s.heap.get? d = some o ∧ o.ExactDict ∧ ∃ (es : Array DictEntry) (ep : Nat), o.data = .dict es ep ∧ es.size = xs.length ∧ Paired (EntOk X.w) xs es.toList := by
  obtain ⟨hd, ⟨hz, hs, hn, o', es, ep, ho, hx, hdt, pr⟩, _⟩ := I.hok d _ h
  rw [hd] at ho
  cases ho
  have hl := Paired.length pr
  exact ⟨hs, hd, hx, es, ep, hdt, by rw [hl, Array.length_toList], pr⟩
theorem paired_at {α β : Type} {R : α → β → Prop} : ∀ {xs : List α} {ys : List β} {i : Nat} {x : α}, Paired R xs ys → xs[i]? = some x → ∃ y, ys[i]? = some y ∧ R x y
  | _, _, _, _, .nil, e => by simp at e
  | _, _, 0, _, .cons r _, e => by simp at e; subst e; exact ⟨_, rfl, r⟩
  | _, _, i + 1, x, .cons _ t, e => by
    obtain ⟨y, h1, h2⟩ := paired_at (i := i) (x := x) t (by simpa using e)
    exact ⟨y, by simpa using h1, h2⟩
theorem turn_dk {P : Program} {w : World} {K : PySem.W.Frag} {tg : Expr} {d : Addr} {o : Obj} {es : Array DictEntry} {ep : Nat} {xs : List (NestedKey × V × V)} (it : Addr) (hod : o.data = .dict es ep) : Turn P w K tg (Itdk w d o xs) [it] it (fun i h => h.IsKeyIter it d i xs.length ep) where
  mem := by simp
  obj := fun i h st b hb => by
    have e : b = it := by simpa using hb
    subst e
    obtain ⟨oi, e, c, dd⟩ := st
    exact ⟨oi, e, fun v z => by rw [dd] at z; cases z⟩
  keep := fun i h h' st k => st.at fun oi e => k it (by simp) oi e
  item := by
    intro X hP hw hK hc i pins s σ H E I hf st hg
    subst hP hw hK
    obtain ⟨hd, hi⟩ := hg
    obtain ⟨f0, f1, f2, f3, f4, f5⟩ := hf it (by simp)
    obtain ⟨hs, hgd, hx, es', ep', hdt, hsz, pr⟩ := Inv.frzD I hd
    obtain ⟨rfl, rfl⟩ := dict_ep hod hdt
    obtain ⟨⟨k, kv, vv⟩, hkv⟩ : ∃ p, xs[i]? = some p := ⟨xs[i], List.getElem?_eq_getElem hi⟩
    obtain ⟨en, hen, _, rk, rv⟩ := paired_at pr hkv
    refine next_key_item st hgd hdt hsz (by simpa using hen) fun h' st' sb => ?_
    have I1 : Inv X pins σ H { s with heap := h' } := I.turned (t' := s.toks) (fun b ob hb e => (sb.2 b hb).trans e) f0 f1 f3 f4 f5
    obtain ⟨oi, e, c, dd⟩ := id st'
    exact ⟨en.key, rfl, go_of (s := { s with heap := h' }) e c dd (by decide) ⟨kv, H, I1, rk, ⟨rfl, k, vv, hkv⟩, st', fun b hb => (hf b hb).1⟩⟩
  done := by
    intro X hP hw hK hc i pins s σ H E I hf st hg
    subst hP hw hK
    obtain ⟨hd, hi⟩ := hg
    obtain ⟨f0, f1, f2, f3, f4, f5⟩ := hf it (by simp)
    obtain ⟨hs, hgd, hx, es', ep', hdt, hsz, pr⟩ := Inv.frzD I hd
    obtain ⟨rfl, rfl⟩ := dict_ep hod hdt
    exact next_key_end (I.ok.hd hc) st hgd hdt hsz hi fun h' eb => ⟨rfl, I.turned (t' := s.toks) (fun b ob hb e => eb b ob hb e) f0 f1 f3 f4 f5⟩
  self := fun A i s Q E st h => by
    refine wpAny_pyIter_slot st.typeIs F.slot_dict_keyiterator_iter (wpAny_call_entry F.slot_dict_keyiterator_iter st.typeIs F.entry_dict_keyiterator_iter ?_ (F.args_dict_keyiterator_iter_1 _))
    show wpAny _ _ (ret (.ref it)) _ _ s
    exact wpAny_pure ⟨_, rfl, "dict_keyiterator", _, st.typeIs, F.slot_dict_keyiterator_next.lookup, h⟩
theorem Rpk.length {K : PySem.W.Frag} {w : World} {G : Hp} : ∀ {kvs : List (NestedKey × D)} {xs : List (NestedKey × V × V)}, Rpk K w G kvs xs → xs.length = kvs.length
  | [], _, h => by
    simp only [Rpk] at h
    rw [h]
    rfl
  | (k, d) :: r, _, h => by
    simp only [Rpk] at h
    obtain ⟨kv, vv, r', e, _, _, h2⟩ := h
    rw [e, List.length_cons, List.length_cons, Rpk.length h2]
theorem Rpk.at {K : PySem.W.Frag} {w : World} {G : Hp} : ∀ {kvs : List (NestedKey × D)} {xs : List (NestedKey × V × V)} {i : Nat} {k : NestedKey} {kv vv : V}, Rpk K w G kvs xs → xs[i]? = some (k, kv, vv) → ∃ d, kvs[i]? = some (k, d) ∧ Kp K G k kv ∧ Rp K w G d vv
  | [], _, _, _, _, _, h, e => by
    simp only [Rpk] at h
    subst h
    simp at e
  | (k, d) :: r, _, 0, _, _, _, h, e => by
    simp only [Rpk] at h
    obtain ⟨kv, vv, r', e1, h0, h1, h2⟩ := h
    subst e1
    simp only [List.getElem?_cons_zero, Option.some.injEq, Prod.mk.injEq] at e
    obtain ⟨rfl, rfl, rfl⟩ := e
    exact ⟨d, rfl, h0, h1⟩
  | (k, d) :: r, _, i + 1, _, _, _, h, e => by
    simp only [Rpk] at h
    obtain ⟨kv, vv, r', e1, h0, h1, h2⟩ := h
    subst e1
    simp only [List.getElem?_cons_succ] at e ⊢
    exact Rpk.at h2 e
theorem i_val {tg l : Expr} {m : Rho → M D} (hl : PEm X S l m) : PIm X S tg l (fun ρ => (m ρ).bind itemsOf) := by
  refine ⟨fun pins s σ H R I ⟨G0, H0, G, ρ, st, q⟩ => ?_⟩
  refine thn (hl.run pins s σ H (fun v H1 => ∃ G1 d, Wf S G1 H1 ∧ Rp X.K X.w G1 d v ∧ wp (itemsOf d) fun ds => ∀ J G' H', Ext S G1 H1 G' H' → ItOk X.K X.w S G' ds J → R J H') I ⟨G0, H0, G, ρ, st, wp_mono (wp_bind.mp q) fun d q1 v G1 H1 x1 r1 => ⟨G1, d, x1.wf, r1, wp_mono q1 fun ds k J G' H' x2 it => k J G' H' (x1.trans st.wf.src x2) it⟩⟩) fun v s1 ⟨x, H1, I1, r1, G1, d, wf, rd, k⟩ => ?_
  cases d with
  | tup ds =>
    simp only [Rp] at rd
    obtain ⟨a, vs, rfl, h1, h2⟩ := rd
    cases r1
    obtain ⟨its, rv, p, hz⟩ := I1.tuple (sqT_same wf.gh h1)
    refine wpAny_pyIter_tuple (show s1.heap.IsTuple a its.toArray from p) ?_
    refine ⟨s1.heap.objs.size, [s1.heap.objs.size], _, _, H1, rfl, I1.kept (t' := s1.toks) fun b o e => Heap.get?_push_of_some _ e, turn_tuple a _, ⟨_, Heap.get?_push_size _ rfl, rfl, rfl⟩, fun b hb => ?_, k _ G1 H1 (Ext.refl wf) ⟨fun i G H s w hi => ?_, fun i G H v H' s w _ hy => ?_, fun G H s w => ?_⟩⟩
    · have e : b = s1.heap.objs.size := by simpa using hb
      subst e
      exact I1.fpOk (Nat.le_refl _) (I1.hok.fresh (Nat.le_refl _))
    · have hi' : i < vs.length := by rw [h2.length]; exact hi
      exact ⟨vs, vs[i], sqT_same (s.trans w.gh) h1, List.getElem?_eq_getElem hi'⟩
    · obtain ⟨rfl, hy⟩ := hy
      obtain ⟨d, e1, e2⟩ := sq_at (t := true) h1 h2 s w.gh hy
      exact ⟨d, G, e1, Ext.refl w, e2⟩
    · exact ⟨vs, sqT_same (s.trans w.gh) h1, by rw [h2.length]; exact Nat.le_refl _⟩
  | lst ds =>
    simp only [Rp] at rd
    obtain ⟨a, vs, rfl, h1, h2⟩ := rd
    cases r1
    obtain ⟨its, rv, p, hz⟩ := I1.list (SqL.of (wf.gh _ _ h1))
    refine wpAny_pyIter_list p.isList ?_
    refine ⟨s1.heap.objs.size, [s1.heap.objs.size], _, _, H1, rfl, I1.kept (t' := s1.toks) fun b o e => Heap.get?_push_of_some _ e, turn_list a _, ⟨_, Heap.get?_push_size _ rfl, rfl, rfl⟩, fun b hb => ?_, k _ G1 H1 (Ext.refl wf) ⟨fun i G H s w hi => ?_, fun i G H v H' s w _ hy => ?_, fun G H s w => ?_⟩⟩
    · have e : b = s1.heap.objs.size := by simpa using hb
      subst e
      exact I1.fpOk (Nat.le_refl _) (I1.hok.fresh (Nat.le_refl _))
    · have hi' : i < vs.length := by rw [h2.length]; exact hi
      exact ⟨vs, vs[i], SqL.of (w.gh _ _ (s _ _ h1)), List.getElem?_eq_getElem hi'⟩
    · obtain ⟨rfl, hy⟩ := hy
      obtain ⟨d, e1, e2⟩ := sq_at (t := false) (SqL.of h1) h2 s w.gh hy
      exact ⟨d, G, e1, Ext.refl w, e2⟩
    · exact ⟨vs, SqL.of (w.gh _ _ (s _ _ h1)), by rw [h2.length]; exact Nat.le_refl _⟩
  | dct kvs =>
    simp only [Rp] at rd
    obtain ⟨a, od, xs, rfl, h1, h2⟩ := rd
    cases r1
    obtain ⟨hs, hgd, hx, es, ep, hdt, hsz, pr⟩ := Inv.frzD I1 (wf.gh _ _ h1)
    refine iter_keys hs hgd hx hdt (pi_one (tk := s1.toks) I1 _ (turn_dk (d := a) (o := od) (xs := xs) _ hdt) ⟨_, Heap.get?_push_size _ rfl, rfl, ?_⟩ (k _ G1 H1 (Ext.refl wf) ⟨fun i G H s w hi => ?_, fun i G H v H' s w _ hy => ?_, fun G H s w => ?_⟩))
    · rw [hsz] <;> rfl
    · exact ⟨w.gh _ _ (s _ _ h1), by rw [h2.length]; simpa using hi⟩
    · obtain ⟨rfl, k2, vv, hy⟩ := hy
      obtain ⟨d, e1, e2, e3⟩ := h2.at hy
      exact ⟨ofKey k2, G, by rw [List.getElem?_map, e1]; rfl, Ext.refl w, Kp.rp _ _ (Kp.same s _ _ e2)⟩
    · exact ⟨w.gh _ _ (s _ _ h1), by rw [h2.length, List.length_map]; exact Nat.le_refl _⟩
  | _ => exact k.elim

/-! ### ranges -/
def rangeD (lo : Int) (n : Nat) : List D := (List.range n).map fun (i : Nat) => D.int (lo + (i : Int))
def big (i : Int) : Bool := decide (-(2 ^ 62) ≤ i) && decide (i < 2 ^ 62)
theorem rng_ok {K : PySem.W.Frag} {w : World} {G1 : Hp} (lo : Int) (n : Nat) : ItOk K w S G1 (rangeD lo n) (Itr lo n) where
  go := fun i G H s wf hi => by
    simp only [rangeD, List.length_map, List.length_range] at hi
    exact hi
  yld := fun i G H v H' s wf hi ⟨e1, e2⟩ => by
    simp only [rangeD, List.length_map, List.length_range] at hi
    subst e1 e2
    exact ⟨.int (lo + i), G, by simp [rangeD, hi], Ext.refl wf, rp_int⟩
  stop := fun G H s wf => by simp [rangeD, Itr]
def mRng1 (r : Rho → M (List D)) : Rho → M (List D) := fun ρ => (r ρ).bind fun ds => match ds with
  | [.int j] => if big j = true then .ret (rangeD 0 j.toNat) else .fail
  | _ => .fail
def mRng2 (r : Rho → M (List D)) : Rho → M (List D) := fun ρ => (r ρ).bind fun ds => match ds with
  | [.int i, .int j] => if (big i && big j) = true then .ret (rangeD i (j - i).toNat) else .fail
  | _ => .fail
theorem i_rng1 {tg a : Expr} {r : Rho → M (List D)} {p pos : Pos} (ha : PAm X S [a] r) (hg : Gl X "range") (hm : X.mg "range" = none) (hs : starEach [a] X.env = [(false, eval a X.env)] := by rfl) : PIm X S tg (.Call (.Name "range" p) [a] [] pos) (mRng1 r) :=
  (pi_range1 hg hm ha hs).imp fun σ H R ⟨G0, H0, G, ρ, st, q⟩ => ⟨G0, H0, G, ρ, st, wp_mono (wp_bind.mp q) fun ds q1 vs G' H' x rr => by
    match ds, q1 with
    | [.int j], q1 =>
      simp only [Rps, Rp] at rr
      obtain ⟨v, r, e, rfl, rfl⟩ := rr
      by_cases hb : big j = true
      · simp only [hb, if_true] at q1
        simp only [big, Bool.and_eq_true, decide_eq_true_eq] at hb
        exact ⟨j, e, hb.1, hb.2, q1 _ G' H' x (rng_ok 0 j.toNat)⟩
      · simp only [hb, if_false] at q1
        exact q1.elim⟩
theorem i_rng2 {tg a b : Expr} {r : Rho → M (List D)} {p pos : Pos} (ha : PAm X S [a, b] r) (hg : Gl X "range") (hm : X.mg "range" = none) (hs : starEach [a, b] X.env = [(false, eval a X.env), (false, eval b X.env)] := by rfl) (hs2 : starEach [b] X.env = [(false, eval b X.env)] := by rfl) : PIm X S tg (.Call (.Name "range" p) [a, b] [] pos) (mRng2 r) :=
  (pi_range2 hg hm ha hs hs2).imp fun σ H R ⟨G0, H0, G, ρ, st, q⟩ => ⟨G0, H0, G, ρ, st, wp_mono (wp_bind.mp q) fun ds q1 vs G' H' x rr => by
    match ds, q1 with
    | [.int i, .int j], q1 =>
      simp only [Rps, Rp] at rr
      obtain ⟨v, r, e, rfl, v2, r2, e2, rfl, rfl⟩ := rr
      subst e2
      by_cases hb : (big i && big j) = true
      · simp only [hb, if_true] at q1
        simp only [big, Bool.and_eq_true, decide_eq_true_eq] at hb
        exact ⟨i, j, e, ⟨hb.1.1, hb.1.2, hb.2.1, hb.2.2⟩, q1 _ G' H' x (rng_ok i (j - i).toNat)⟩
      · simp only [hb] at q1
        exact q1.elim⟩

/-! ### enumerate, zip -/
set_option maxHeartbeats 1000000 in
theorem meets_en1 {v : Value} {o : Obj} {H : Heap → Prop} (B : Begins v o H) :
    Meets (Builtin.«enumerate.__new__» ⟨[.type "enumerate", v], []⟩) (fun _ R s => H s.heap ∧
      R (.ok (.ret (.ref (s.heap.push o).objs.size))) { s with heap := (s.heap.push o).push { cls := .type "enumerate", data := .fields #[.none, .bool false, .ref s.heap.objs.size, rawInt 0, .none, .none] } }) :=
  .of_wp fun prog w A R s h => by
    obtain ⟨hp, g, d, tk, os⟩ := s; obtain ⟨h1, h⟩ := h
    have hsub := sub_enumerate
    have q1 : ∀ {A' : Around} {E : Value → Shared → Prop} {Q : Value → Shared → Prop}, Q (.ref hp.objs.size) ⟨hp.push o, g, d, tk, os⟩ → wpAny (model prog w) A' (pyIter v) Q E ⟨hp, g, d, tk, os⟩ :=
      fun q => B.iter prog w _ _ ⟨hp, g, d, tk, os⟩ _ h1 q
    wp_walk using q1
    refine wpAny_stack_any fun st => wpAny_pure ?_
    split
    · rename_i c _ _ _ _ _
      cases (c == Value.type "enumerate")
      · wp_walk using q1
        exact ⟨_, rfl, h⟩
      · wp_walk using q1
        exact ⟨_, rfl, h⟩
    · wp_walk using q1
      exact ⟨_, rfl, h⟩
theorem call_en {prog : Program} {w : World} {A : Around} {E : Value → Shared → Prop} {s : Shared} {v : Value} {o : Obj} {H : Heap → Prop} {Q : Value → Shared → Prop} (B : Begins v o H) (h1 : H s.heap)
    (h : ∀ h', IsEnum h' (s.heap.objs.size + 1) s.heap.objs.size 0 .none → h'.get? s.heap.objs.size = some o →
      (∀ b o, s.heap.get? b = some o → h'.get? b = some o) → Q (.ref (s.heap.objs.size + 1)) { s with heap := h' }) :
    wpAny (model prog w) A (call (.type "enumerate") [v]) Q E s := by
  refine callType_new F.called_enumerate (by decide) (F.typeCall_enumerate_1 _) (F.newCall_enumerate_1 _) (fun obj => F.args_object_init_2 obj _) F.entry_enumerate_new
    (meets_en1 B) ⟨h1, ?_⟩
  have hz : (s.heap.push o).objs.size = s.heap.objs.size + 1 := Heap.size_push ..
  show _ ∧ _
  rw [hz]
  have he : IsEnum ((s.heap.push o).push { cls := .type "enumerate", data := .fields #[.none, .bool false, .ref s.heap.objs.size, rawInt 0, .none, .none] }) (s.heap.objs.size + 1) s.heap.objs.size 0 .none := by
    have := Heap.get?_push_size (s.heap.push o) (o := { cls := .type "enumerate", data := .fields #[.none, .bool false, .ref s.heap.objs.size, rawInt 0, .none, .none] }) rfl
    rw [hz] at this; exact this
  exact ⟨⟨_, he, rfl⟩, h _ he (Heap.get?_push_of_some _ (Heap.get?_push_size _ B.free)) fun b o x => Heap.get?_push_of_some _ (Heap.get?_push_of_some _ x)⟩
def mEnum (r : Rho → M (List D)) : Rho → M (List D) := fun ρ => (r ρ).bind fun ds => match ds with
  | [x] => match seqOf x with
    | some xs => .ret (enumD 0 xs)
    | none => .fail
  | _ => .fail
theorem i_enum {e : Expr} {r : Rho → M (List D)} {p pos tpos : Pos} {elts : List Expr} {kk : Nat} (ha : PAm X S [e] r) (hg : Gl X "enumerate") (hm : X.mg "enumerate" = none)
    (hs : starEach [e] X.env = (false, eval e X.env) :: starEach [] X.env := by rfl) (hpl : (backTo pos (starEach [] X.env)).any (·.1) = false := by rfl) :
    PIm X S (.Tuple elts kk tpos) (.Call (.Name "enumerate" p) [e] [] pos) (mEnum r) := by
  refine ⟨fun pins s σ H R I ⟨G0, H0, G, ρ, st, q⟩ => ?_⟩
  refine Call_ (ld_blt I hg hm PyProof.Rows.boot_enumerate (PyProof.Rows.callWith_type1 (thn (ha.run pos pins s σ H (fun vs H1 => ∃ v t a us xs G1, vs = [v] ∧ v = .ref a ∧ SqK t X.K G1 a us ∧ Rps X.K X.w G1 xs us ∧ Wf S G1 H1 ∧ ∀ J G' H', Ext S G1 H1 G' H' → ItOk X.K X.w S G' (enumD 0 xs) J → R J H') I ⟨G0, H0, G, ρ, st, wp_mono (wp_bind.mp q) fun ds q1 vs G1 H1 x1 rr => ?_⟩) fun us s1 ⟨vs, H1, I1, r1, q1⟩ => ?_) hs hpl))
  · match ds, q1 with
    | [d], q1 =>
      simp only [Rps] at rr
      obtain ⟨v, r, e, rd, rfl⟩ := rr
      cases hq : seqOf d with
      | none => simp only [hq] at q1; exact q1.elim
      | some xs =>
        simp only [hq] at q1
        obtain ⟨t, a, us, e1, e2, e3⟩ := seq_of hq rd
        exact ⟨v, t, a, us, xs, G1, e, e1, e2, e3, x1.wf, fun J G' H' x2 it => q1 J G' H' (x1.trans st.wf.src x2) it⟩
  · obtain ⟨v, t, a, us2, xs, G1, rfl, rfl, hq, hr, wf, k⟩ := q1
    cases r1 with
    | cons r rr =>
      cases rr
      cases r
      obtain ⟨its, rv, p1, la⟩ := (hq.same wf.gh).get I1
      refine call_en (begK t a its.toArray) p1 fun h' he ho hk => wpAny_pyIter_enum he ?_
      have I2 : Inv X pins σ H1 { s1 with heap := h' } := I1.kept (t' := s1.toks) hk
      refine ⟨s1.heap.objs.size + 1, [s1.heap.objs.size + 1, s1.heap.objs.size], _, _, H1, rfl, I2, turn_en (t := t) la, ⟨⟨.none, he⟩, begK_it ho⟩, fun c hcm => ?_, k _ G1 H1 (Ext.refl wf) (itz_ok (fun i H s hi => ?_) (fun i G H vals s s2 hy => ?_) fun H s => ?_)⟩
      · have hle : s1.heap.objs.size ≤ c := by
          simp only [List.mem_cons, List.not_mem_nil, or_false] at hcm
          rcases hcm with z | z
          · rw [z]; exact Nat.le_add_right _ _
          · rw [z]; exact Nat.le_refl _
        exact I1.fpOk hle (I1.hok.fresh hle)
      · exact ⟨us2, hq.same s, by rw [hr.length]; rw [enumD_len] at hi; exact hi⟩
      · obtain ⟨x, e1, e2⟩ := hy
        obtain ⟨d, f1, f2⟩ := sq_at hq hr s s2 e2
        refine ⟨[.int (i : Int), d], ?_, ?_⟩
        · have := enumD_get (k := 0) f1
          rw [Nat.zero_add] at this
          exact this
        · rw [e1]
          exact Rps.cons rp_int (Rps.cons f2 Rps.nil)
      · exact ⟨us2, hq.same s, by rw [enumD_len, hr.length]⟩
def mZip2 (r : Rho → M (List D)) : Rho → M (List D) := fun ρ => (r ρ).bind fun ds => match ds with
  | [x, y] => match seqOf x, seqOf y with
    | some xs, some ys => .ret (List.zipWith pairD xs ys)
    | _, _ => .fail
  | _ => .fail
theorem i_zip2 {e e2 : Expr} {r : Rho → M (List D)} {p pos tpos : Pos} {elts : List Expr} {kk : Nat} (ha : PAm X S [e, e2] r) (hg : Gl X "zip") (hm : X.mg "zip" = none)
    (hs : starEach [e, e2] X.env = (false, eval e X.env) :: starEach [e2] X.env := by rfl) (hpl : (backTo pos (starEach [e2] X.env)).any (·.1) = false := by rfl) :
    PIm X S (.Tuple elts kk tpos) (.Call (.Name "zip" p) [e, e2] [] pos) (mZip2 r) := by
  refine ⟨fun pins s σ H R I ⟨G0, H0, G, ρ, st, q⟩ => ?_⟩
  refine Call_ (ld_blt I hg hm PyProof.Rows.boot_zip (PyProof.Rows.callWith_type1 (thn (ha.run pos pins s σ H (fun vs H1 => ∃ t1 a us1 xs t2 b us2 ys G1, vs = [.ref a, .ref b] ∧ SqK t1 X.K G1 a us1 ∧ Rps X.K X.w G1 xs us1 ∧ SqK t2 X.K G1 b us2 ∧ Rps X.K X.w G1 ys us2 ∧ Wf S G1 H1 ∧ ∀ J G' H', Ext S G1 H1 G' H' → ItOk X.K X.w S G' (List.zipWith pairD xs ys) J → R J H') I ⟨G0, H0, G, ρ, st, wp_mono (wp_bind.mp q) fun ds q1 vs G1 H1 x1 rr => ?_⟩) fun us s1 ⟨vs, H1, I1, r1, q1⟩ => ?_) hs hpl))
  · match ds, q1 with
    | [d1, d2], q1 =>
      simp only [Rps] at rr
      obtain ⟨v, r, e, rd, v2, r2, e2, rd2, rfl⟩ := rr
      subst e2 e
      cases hq : seqOf d1 with
      | none => simp only [hq] at q1; exact q1.elim
      | some xs =>
        cases hq2 : seqOf d2 with
        | none => simp only [hq, hq2] at q1; exact q1.elim
        | some ys =>
          simp only [hq, hq2] at q1
          obtain ⟨t, a, us, rfl, e2, e3⟩ := seq_of hq rd
          obtain ⟨t2, b, us2, rfl, e4, e5⟩ := seq_of hq2 rd2
          exact ⟨t, a, us, xs, t2, b, us2, ys, G1, rfl, e2, e3, e4, e5, x1.wf, fun J G' H' x2 it => q1 J G' H' (x1.trans st.wf.src x2) it⟩
  · obtain ⟨t1, a, us1, xs, t2, b, us2, ys, G1, rfl, hq, hr, hq2, hr2, wf, k⟩ := q1
    cases r1 with
    | cons r rr =>
      cases rr with
      | cons r' rr =>
        cases rr
        cases r
        cases r'
        obtain ⟨its, rv, p1, la⟩ := (hq.same wf.gh).get I1
        obtain ⟨jts, rv2, p2, lb⟩ := (hq2.same wf.gh).get I1
        refine zip_begins2 (begK t1 a its.toArray) (begK t2 b jts.toArray) p1 p2 fun h' hz hTI hTO h1 h2 hsz hk => wpAny_pyIter_zip hz ?_
        have I2 : Inv X pins σ H1 { s1 with heap := h' } := I1.kept (t' := s1.toks) hk
        refine ⟨s1.heap.objs.size + 4, [s1.heap.objs.size + 4, s1.heap.objs.size + 2, s1.heap.objs.size + 3, s1.heap.objs.size, s1.heap.objs.size + 1], _, _, H1, rfl, I2, turn_zip2 (t1 := t1) (t2 := t2) la lb, ⟨hz, hTI, ⟨_, _, hTO⟩, begK_it h1, begK_it h2⟩, fun c hcm => ?_, k _ G1 H1 (Ext.refl wf) (itz_ok (fun i H s hi => ?_) (fun i G H vals s s2 hy => ?_) fun H s => ?_)⟩
        · have hle : s1.heap.objs.size ≤ c := by
            simp only [List.mem_cons, List.not_mem_nil, or_false] at hcm
            rcases hcm with z | z | z | z | z
            · rw [z]; exact Nat.le_add_right _ _
            · rw [z]; exact Nat.le_add_right _ _
            · rw [z]; exact Nat.le_add_right _ _
            · rw [z]; exact Nat.le_refl _
            · rw [z]; exact Nat.le_add_right _ _
          exact I1.fpOk hle (I1.hok.fresh hle)
        · refine ⟨us1, us2, hq.same s, hq2.same s, ?_⟩
          rw [hr.length, hr2.length]
          rw [List.length_zipWith] at hi
          exact hi
        · obtain ⟨x, y, e1, e2, e3⟩ := hy
          obtain ⟨d, f1, f2⟩ := sq_at hq hr s s2 e2
          obtain ⟨d2, f3, f4⟩ := sq_at hq2 hr2 s s2 e3
          refine ⟨[d, d2], ?_, ?_⟩
          · rw [List.getElem?_zipWith, f1, f3]
            rfl
          · rw [e1]
            exact Rps.cons f2 (Rps.cons f4 Rps.nil)
        · exact ⟨us1, us2, hq.same s, hq2.same s, by rw [List.length_zipWith, hr.length, hr2.length]⟩
def mZip3 (r : Rho → M (List D)) : Rho → M (List D) := fun ρ => (r ρ).bind fun ds => match ds with
  | [x, y, z] => match seqOf x, seqOf y, seqOf z with
    | some xs, some ys, some zs => .ret (zip3D xs ys zs)
    | _, _, _ => .fail
  | _ => .fail
theorem i_zip3 {e e2 e3 : Expr} {r : Rho → M (List D)} {p pos tpos : Pos} {elts : List Expr} {kk : Nat} (ha : PAm X S [e, e2, e3] r) (hg : Gl X "zip") (hm : X.mg "zip" = none)
    (hs : starEach [e, e2, e3] X.env = (false, eval e X.env) :: starEach [e2, e3] X.env := by rfl) (hpl : (backTo pos (starEach [e2, e3] X.env)).any (·.1) = false := by rfl) :
    PIm X S (.Tuple elts kk tpos) (.Call (.Name "zip" p) [e, e2, e3] [] pos) (mZip3 r) := by
  refine ⟨fun pins s σ H R I ⟨G0, H0, G, ρ, st, q⟩ => ?_⟩
  refine Call_ (ld_blt I hg hm PyProof.Rows.boot_zip (PyProof.Rows.callWith_type1 (thn (ha.run pos pins s σ H (fun vs H1 => ∃ t1 a us1 xs t2 b us2 ys t3 c us3 zs G1, vs = [.ref a, .ref b, .ref c] ∧ SqK t1 X.K G1 a us1 ∧ Rps X.K X.w G1 xs us1 ∧ SqK t2 X.K G1 b us2 ∧ Rps X.K X.w G1 ys us2 ∧ SqK t3 X.K G1 c us3 ∧ Rps X.K X.w G1 zs us3 ∧ Wf S G1 H1 ∧ ∀ J G' H', Ext S G1 H1 G' H' → ItOk X.K X.w S G' (zip3D xs ys zs) J → R J H') I ⟨G0, H0, G, ρ, st, wp_mono (wp_bind.mp q) fun ds q1 vs G1 H1 x1 rr => ?_⟩) fun us s1 ⟨vs, H1, I1, r1, q1⟩ => ?_) hs hpl))
  · match ds, q1 with
    | [d1, d2, d3], q1 =>
      simp only [Rps] at rr
      obtain ⟨v, r, e, rd, v2, r2, e2, rd2, v3, r3, e3, rd3, rfl⟩ := rr
      subst e3 e2 e
      cases hq : seqOf d1 with
      | none => simp only [hq] at q1; exact q1.elim
      | some xs =>
        cases hq2 : seqOf d2 with
        | none => simp only [hq, hq2] at q1; exact q1.elim
        | some ys =>
          cases hq3 : seqOf d3 with
          | none => simp only [hq, hq2, hq3] at q1; exact q1.elim
          | some zs =>
            simp only [hq, hq2, hq3] at q1
            obtain ⟨t, a, us, rfl, e2, e3⟩ := seq_of hq rd
            obtain ⟨t2, b, us2, rfl, e4, e5⟩ := seq_of hq2 rd2
            obtain ⟨t3, c, us3, rfl, e6, e7⟩ := seq_of hq3 rd3
            exact ⟨t, a, us, xs, t2, b, us2, ys, t3, c, us3, zs, G1, rfl, e2, e3, e4, e5, e6, e7, x1.wf, fun J G' H' x2 it => q1 J G' H' (x1.trans st.wf.src x2) it⟩
  · obtain ⟨t1, a, us1, xs, t2, b, us2, ys, t3, c, us3, zs, G1, rfl, hq, hr, hq2, hr2, hq3, hr3, wf, k⟩ := q1
    cases r1 with
    | cons r rr =>
      cases rr with
      | cons r' rr =>
        cases rr with
        | cons r'' rr =>
          cases rr
          cases r
          cases r'
          cases r''
          obtain ⟨its, rv, p1, la⟩ := (hq.same wf.gh).get I1
          obtain ⟨jts, rv2, p2, lb⟩ := (hq2.same wf.gh).get I1
          obtain ⟨kts, rv3, p3, lc⟩ := (hq3.same wf.gh).get I1
          refine zip_begins3 (begK t1 a its.toArray) (begK t2 b jts.toArray) (begK t3 c kts.toArray) p1 p2 p3 fun h' hz hTI hTO h1 h2 h3 hsz hk => wpAny_pyIter_zip hz ?_
          have I2 : Inv X pins σ H1 { s1 with heap := h' } := I1.kept (t' := s1.toks) hk
          refine ⟨s1.heap.objs.size + 5, [s1.heap.objs.size + 5, s1.heap.objs.size + 3, s1.heap.objs.size + 4, s1.heap.objs.size, s1.heap.objs.size + 1, s1.heap.objs.size + 2], _, _, H1, rfl, I2, turn_zip3 (t1 := t1) (t2 := t2) (t3 := t3) la lb lc, ⟨hz, hTI, ⟨_, _, _, hTO⟩, begK_it h1, begK_it h2, begK_it h3⟩, fun c hcm => ?_, k _ G1 H1 (Ext.refl wf) (itz_ok (fun i H s hi => ?_) (fun i G H vals s s2 hy => ?_) fun H s => ?_)⟩
          · have hle : s1.heap.objs.size ≤ c := by
              simp only [List.mem_cons, List.not_mem_nil, or_false] at hcm
              rcases hcm with z | z | z | z | z | z
              · rw [z]; exact Nat.le_add_right _ _
              · rw [z]; exact Nat.le_add_right _ _
              · rw [z]; exact Nat.le_add_right _ _
              · rw [z]; exact Nat.le_refl _
              · rw [z]; exact Nat.le_add_right _ _
              · rw [z]; exact Nat.le_add_right _ _
            exact I1.fpOk hle (I1.hok.fresh hle)
          · refine ⟨us1, us2, us3, hq.same s, hq2.same s, hq3.same s, ?_⟩
            rw [hr.length, hr2.length, hr3.length]
            rw [zip3D_len] at hi
            exact hi
          · obtain ⟨x, y, z, e1, e2, e3, e4⟩ := hy
            obtain ⟨d, f1, f2⟩ := sq_at hq hr s s2 e2
            obtain ⟨d2, f3, f4⟩ := sq_at hq2 hr2 s s2 e3
            obtain ⟨d3, f5, f6⟩ := sq_at hq3 hr3 s s2 e4
            refine ⟨[d, d2, d3], zip3D_get f1 f3 f5, ?_⟩
            rw [e1]
            exact Rps.cons f2 (Rps.cons f4 (Rps.cons f6 Rps.nil))
          · exact ⟨us1, us2, us3, hq.same s, hq2.same s, hq3.same s, by rw [zip3D_len, hr.length, hr2.length, hr3.length]⟩
end
end PL

/-! PL8: list comprehensions -/
namespace PL
open PySem PySem.Spec PyProof.Rows L2
def wipeE (ρ : Rho) : List Nat → Rho
  | [] => ρ
  | v :: vs => (wipeE ρ vs).set v .no
section
variable {K : PySem.W.Frag} {w : World} {S : Src} {G0 H0 G H G' H' : Hp} {ρ : Rho} {σ : L2.St}
theorem Stk.setNo {i : Nat} (h : Stk K w S G0 H0 G ρ σ H) : Stk K w S G0 H0 G (ρ.set i .no) (σ.set i none) H where
  src0 := h.src0
  ext := h.ext
  len := by rw [List.length_set, List.length_set]; exact h.len
  slots := fun j s hs => by
    rcases get_set hs with ⟨e1, e2, e3⟩ | ⟨e1, e2⟩
    · subst e2
      trivial
    · rw [List.getElem?_set_ne (Ne.symm e1)]
      exact h.slots j s e2
  apart := fun a b d1 d2 hn h1 h2 => by
    rcases get_set h1 with ⟨_, e2, _⟩ | ⟨e1, e2⟩
    · cases e2
    · rcases get_set h2 with ⟨_, e4, _⟩ | ⟨e3, e4⟩
      · cases e4
      · rw [List.getElem?_set_ne (Ne.symm e1), List.getElem?_set_ne (Ne.symm e3)]
        exact h.apart a b d1 d2 hn e2 e4
theorem Stk.wipe (h : Stk K w S G0 H0 G ρ σ H) : ∀ vs : List Nat, Stk K w S G0 H0 G (wipeE ρ vs) (L2.wipe σ vs) H
  | [] => h
  | v :: vs => (h.wipe vs).setNo
theorem wipe_at : ∀ (vs : List Nat) (σ : L2.St) (i : Nat), i ∈ vs → (L2.wipe σ vs)[i]? = if i < σ.length then some none else none
  | [], _, _, h => by simp at h
  | v :: vs, σ, i, h => by
    unfold L2.wipe
    by_cases e : v = i
    · subst e
      by_cases hl : v < σ.length
      · rw [List.getElem?_set_self (by rw [wipe_length]; exact hl), if_pos hl]
      · rw [List.getElem?_eq_none (by rw [List.length_set, wipe_length]; omega), if_neg hl]
    · rw [List.getElem?_set_ne e]
      refine wipe_at vs σ i ?_
      rcases List.mem_cons.mp h with z | z
      · exact absurd z.symm e
      · exact z
theorem wipe_eq {vs : List Nat} {σ σ' : L2.St} (hl : σ'.length = σ.length) (h : ∀ j, j ∉ vs → σ'[j]? = (L2.wipe σ vs)[j]?) : L2.wipe σ' vs = L2.wipe σ vs := by
  refine List.ext_getElem? fun i => ?_
  by_cases hi : i ∈ vs
  · rw [wipe_at vs σ' i hi, wipe_at vs σ i hi, hl]
  · rw [wipe_out hi]
    exact h i hi
/-- the list that grows at a -/
structure AccAt (K : PySem.W.Frag) (w : World) (S : Src) (G1 H1 : Hp) (a : Addr) (G H : Hp) (acc : List D) : Prop where
  ext : Ext S G1 H1 G H
  no : G a = none
  at_ : ∃ vs, H a = some (.lst vs) ∧ Rps K w G acc vs
theorem AccAt.step {G1 H1 G H G' H' : Hp} {a : Addr} {acc : List D} (w0 : SrcAt S H1) (ha : H1 a = none) (h : AccAt K w S G1 H1 a G H acc) (e : Ext S G H G' H') : AccAt K w S G1 H1 a G' H' acc := by
  obtain ⟨vs, q1, q2⟩ := h.at_
  refine ⟨h.ext.trans w0 e, ?_, vs, e.fr a _ q1 (w0.notS ha), Rps.same e.gg _ _ q2⟩
  cases q : G' a with
  | none => rfl
  | some u =>
    have := e.new a h.no (by rw [q]; simp)
    rw [q1] at this
    cases this
theorem AccAt.push {G1 H1 G H : Hp} {a : Addr} {acc : List D} {d : D} {v : V} (w0 : SrcAt S H1) (ha : H1 a = none) (h : AccAt K w S G1 H1 a G H acc) (r : Rp K w G d v) {vs : List V} (e : H a = some (.lst vs)) : AccAt K w S G1 H1 a G (upd H a (.lst (vs ++ [v]))) (acc ++ [d]) := by
  obtain ⟨vs', q1, q2⟩ := h.at_
  rw [e] at q1
  cases q1
  have hs := w0.notS ha
  refine ⟨⟨h.ext.gg, ⟨fun b o q => ?_, fun p hp => ?_, h.ext.wf.gs⟩, fun b o q n => ?_, h.ext.new⟩, h.no, vs ++ [v], upd_same, q2.append (Rps.cons r Rps.nil)⟩
  · rw [upd_ne (ne_of_none q h.no)]
    exact h.ext.wf.gh _ _ q
  · obtain ⟨ne, cells, l, m, t, h1, h2, r⟩ := h.ext.wf.src p hp
    obtain ⟨n1, n2⟩ := hs p hp
    exact ⟨ne, cells, l, m, t, by rw [upd_ne n1.symm]; exact h1, by rw [upd_ne n2.symm]; exact h2, r⟩
  · rw [upd_ne (ne_of_none q ha)]
    exact h.ext.fr b o q n
end
def accM (turn : D → List D → M (List D)) : List D → List D → M (List D)
  | [], acc => .ret acc
  | d :: ds, acc => (turn d acc).bind (accM turn ds)
def pushM (me : Rho → M D) (ρ : Rho) (acc : List D) : M (List D) := (me ρ).bind fun y => if acc.length < sizeLine then .ret (acc ++ [y]) else .fail
/-- [me for g in mi if mt] -/
def turn1 (g : Tgt) (mt : Rho → M Bool) (me : Rho → M D) (ρw : Rho) (d : D) (acc : List D) : M (List D) :=
  (M.opt (g d ρw)).bind fun ρ1 => (mt ρ1).bind fun b => if b = true then pushM me ρ1 acc else .ret acc
def mComp (vs : List Nat) (g : Tgt) (mi : Rho → M (List D)) (mt : Rho → M Bool) (me : Rho → M D) : Rho → M D := fun ρ =>
  (mi ρ).bind fun ds => (accM (turn1 g mt me (wipeE ρ vs)) ds []).bind fun acc => .ret (.lst acc)
def turn2 (vs1 : List Nat) (g : Tgt) (mt : Rho → M Bool) (mi1 : Rho → M (List D)) (g1 : Tgt) (mt1 : Rho → M Bool) (me : Rho → M D) (ρw : Rho) (d : D) (acc : List D) : M (List D) :=
  (M.opt (g d ρw)).bind fun ρ1 => (mt ρ1).bind fun b => if b = true then (mi1 ρ1).bind fun ds1 => accM (turn1 g1 mt1 me (wipeE ρ1 vs1)) ds1 acc else .ret acc
def mComp2 (vs vs1 : List Nat) (g : Tgt) (mi : Rho → M (List D)) (mt : Rho → M Bool) (mi1 : Rho → M (List D)) (g1 : Tgt) (mt1 : Rho → M Bool) (me : Rho → M D) : Rho → M D := fun ρ =>
  (mi ρ).bind fun ds => (accM (turn2 vs1 g mt mi1 g1 mt1 me (wipeE ρ vs)) ds []).bind fun acc => .ret (.lst acc)
def mYes : Rho → M Bool := fun _ => .ret true
section
variable {X : Cx} {S : Src}
abbrev PTsm (X : Cx) (S : Src) (es : List Expr) (m : Rho → M Bool) : Prop := PTs X es (tT X.K X.w S m)
theorem ts_nil : PTsm X S [] mYes := ⟨fun pins s σ H Q I h => pts_nil.run pins s σ H Q I (by
  obtain ⟨G0, H0, G, ρ, st, q⟩ := h
  exact q G H (Ext.refl st.wf))⟩
theorem ts_one {c : Expr} {m : Rho → M Bool} (h : PTm X S c m) : PTsm X S [c] m := pts_one h
def Off (ρ : Rho) (σ : L2.St) (a : Addr) : Prop := ∀ (i : Nat) (d : D), ρ[i]? = some (.own d) → σ[i]? ≠ some (some (.ref a))
theorem Off.sub {ρ ρ' : Rho} {σ σ' : L2.St} {a : Addr} (h : Off ρ σ a) (o : OwnSub ρ σ ρ' σ') : Off ρ' σ' a := fun i d e q => by
  obtain ⟨e1, e2⟩ := o i d e
  exact h i d e1 (e2 ▸ q)
theorem OwnSub.wipe (ρ : Rho) (σ : L2.St) : ∀ vs : List Nat, OwnSub ρ σ (wipeE ρ vs) (L2.wipe σ vs)
  | [] => OwnSub.refl _ _
  | v :: vs => (OwnSub.wipe ρ σ vs).trans (OwnSub.set v _ _ (fun _ q => nomatch q))
theorem Stk.off {K : PySem.W.Frag} {w : World} {S : Src} {G0 H0 G H : Hp} {ρ : Rho} {σ : L2.St} {a : Addr} (h : Stk K w S G0 H0 G ρ σ H) (ha : H a = none) : Off ρ σ a := fun i d e q => by
  obtain ⟨b, e1, _, ob⟩ := h.slots i _ e
  rw [q] at e1
  cases e1
  obtain ⟨u, hu, _⟩ := ob.there
  rw [ha] at hu
  cases hu
theorem Stk.poke {K : PySem.W.Frag} {w : World} {S : Src} {G0 H0 G H : Hp} {ρ : Rho} {σ : L2.St} {a : Addr} {o : HO} (h : Stk K w S G0 H0 G ρ σ H) (ha : H0 a = none) (hg : G a = none) (off : Off ρ σ a) : Stk K w S G0 H0 G ρ σ (upd H a o) where
  src0 := h.src0
  ext := by
    have hs := h.src0.notS ha
    refine ⟨h.ext.gg, ⟨fun c o' q => ?_, fun p hp => ?_, h.wf.gs⟩, fun c o' q n => ?_, h.ext.new⟩
    · rw [upd_ne (ne_of_none q hg)]
      exact h.wf.gh _ _ q
    · obtain ⟨ne, cells, l, m, t, h1, h2, r⟩ := h.wf.src p hp
      obtain ⟨n1, n2⟩ := hs p hp
      exact ⟨ne, cells, l, m, t, by rw [upd_ne n1.symm]; exact h1, by rw [upd_ne n2.symm]; exact h2, r⟩
    · rw [upd_ne (ne_of_none q ha)]
      exact h.ext.fr c o' q n
  len := h.len
  slots := fun j s e => by
    have q := h.slots j s e
    cases s with
    | no => trivial
    | val _ => exact q
    | src => exact q
    | scr _ => exact q
    | own d2 =>
      obtain ⟨c, e3, hc, oc⟩ := q
      have nc : c ≠ a := fun z => off j d2 e (by rw [e3, z])
      refine ⟨c, e3, hc, oc.1, ?_⟩
      have oc2 := oc.2
      cases d2 with
      | lst ds => obtain ⟨vs, q1, q2⟩ := oc2; exact ⟨vs, by rw [upd_ne nc]; exact q1, q2⟩
      | dct ds => obtain ⟨vs, q1, q2⟩ := oc2; exact ⟨vs, by rw [upd_ne nc]; exact q1, q2⟩
      | _ => exact oc2.elim
  apart := h.apart
/-- one clause: the loop -/
theorem lc_loop {K : PySem.W.Frag} {w : World} {S : Src} {G0 H0 Gs Hs G1 : Hp} {ρ : Rho} {σ : L2.St} {a : Addr} {ds : List D} {J : It} {g : Tgt} {mt : Rho → M Bool} {me : Rho → M D} {vs : List Nat} {acc0 : List D} {Gb Hb : Hp} {Post : Hp → Prop}
    (w0 : SrcAt S Hs) (ha : Hs a = none) (ha0 : H0 a = none) (off : Off ρ σ a) (st : Stk K w S G0 H0 Gb ρ σ Hb) (it : ItOk K w S G1 ds J) (hb : AccAt K w S Gs Hs a Gb Hb acc0) (s1 : Same G1 Gb)
    (q : wp (accM (turn1 g mt me (wipeE ρ vs)) ds acc0) fun acc => ∀ G H, Same G1 G → AccAt K w S Gs Hs a G H acc → Stk K w S G0 H0 G ρ σ H → Post H) :
    ∃ W : Nat → Nat → Hp → Prop, (∃ m, W 0 m Hb) ∧ ∀ i m H, W i m H → (J.stop i H ∧ Post H) ∨ (J.go i H ∧ ∃ Nx : Hp → Prop, (∀ H', Nx H' → ∃ m', m' < m ∧ W (i + 1) m' H') ∧
      ∀ x H', J.yld i H x H' → tG K w S vs g x (L2.wipe σ vs) H' fun σ2 H2 => L2.wipe σ2 vs = L2.wipe σ vs ∧ tT K w S mt σ2 H2 fun b H3 =>
        if b = true then tE K w S .val me σ2 H3 fun y H4 => ∃ acc, H4 a = some (.lst acc) ∧ acc.length < sizeLine ∧ Nx (upd H4 a (.lst (acc ++ [y]))) else Nx H3) := by
  let W : Nat → Nat → Hp → Prop := fun i m H => m = ds.length - i ∧ i ≤ ds.length ∧ ∃ G acc, Same G1 G ∧ AccAt K w S Gs Hs a G H acc ∧ Stk K w S G0 H0 G ρ σ H ∧ wp (accM (turn1 g mt me (wipeE ρ vs)) (ds.drop i) acc) fun acc => ∀ G H, Same G1 G → AccAt K w S Gs Hs a G H acc → Stk K w S G0 H0 G ρ σ H → Post H
  refine ⟨W, ⟨ds.length, rfl, Nat.zero_le _, Gb, acc0, s1, hb, st, q⟩, ?_⟩
  rintro i m H ⟨rfl, hl, G, acc, sG, A, sk, q2⟩
  by_cases hlt : i < ds.length
  · refine .inr ⟨it.go i G H sG A.ext.wf hlt, fun H' => W (i + 1) (ds.length - (i + 1)) H', fun H' h => ⟨_, by omega, h⟩, fun x H' y => ?_⟩
    obtain ⟨d, G3, hd, x3, r3⟩ := it.yld i G H x H' sG A.ext.wf hlt y
    have ed : ds.drop i = d :: ds.drop (i + 1) := by
      obtain ⟨hl', e⟩ := List.getElem?_eq_some_iff.mp hd
      rw [List.drop_eq_getElem_cons hl', e]
    rw [ed] at q2
    have A3 := A.step w0 ha x3
    have k3 := sk.step x3
    obtain ⟨ρ1, hg1, q3⟩ := wp_opt.mp (wp_bind.mp (wp_bind.mp q2))
    refine ⟨G0, H0, G3, _, d, ρ1, k3.wipe vs, r3, hg1, fun σ2 hl2 hk2 _ st2 => ⟨wipe_eq (by rw [hl2, wipe_length]) hk2, ?_⟩⟩
    refine ⟨G0, H0, G3, ρ1, st2, wp_mono (wp_bind.mp q3) fun b q4 G4 H4 x4 => ?_⟩
    have A4 := A3.step w0 ha x4
    have k4 := k3.step x4
    have s4 : Same G1 G4 := (sG.trans x3.gg).trans x4.gg
    cases b with
    | true =>
      refine ⟨G0, H0, G4, ρ1, st2.step x4, wp_mono (wp_bind.mp q4) fun y q5 v G5 H5 x5 r5 => ?_⟩
      have A5 := A4.step w0 ha x5
      obtain ⟨us, e1, e2⟩ := A5.at_
      by_cases hz : acc.length < sizeLine
      · rw [if_pos hz] at q5
        exact ⟨us, e1, by rw [e2.length]; exact hz, rfl, hlt, G5, acc ++ [y], s4.trans x5.gg, A5.push w0 ha r5 e1, (k4.step x5).poke ha0 A5.no off, q5⟩
      · rw [if_neg hz] at q5
        exact q5.elim
    | false => exact ⟨rfl, hlt, G4, acc, s4, A4, k4, q4⟩
  · have e : i = ds.length := by omega
    subst e
    rw [List.drop_length] at q2
    exact .inl ⟨it.stop G H sG A.ext.wf, q2 G H sG A sk⟩
/-- .. within another frame's state -/
theorem lc_loop2 {ρo : Rho} {σo : L2.St} {K : PySem.W.Frag} {w : World} {S : Src} {G0 H0 Gs Hs G1 : Hp} {ρ : Rho} {σ : L2.St} {a : Addr} {ds : List D} {J : It} {g : Tgt} {mt : Rho → M Bool} {me : Rho → M D} {vs : List Nat} {acc0 : List D} {Gb Hb : Hp} {Post : Hp → Prop}
    (w0 : SrcAt S Hs) (ha : Hs a = none) (ha0 : H0 a = none) (off : Off ρ σ a) (offo : Off ρo σo a) (st : Stk K w S G0 H0 Gb ρ σ Hb) (sto : Stk K w S G0 H0 Gb ρo σo Hb) (it : ItOk K w S G1 ds J) (hb : AccAt K w S Gs Hs a Gb Hb acc0) (s1 : Same G1 Gb)
    (q : wp (accM (turn1 g mt me (wipeE ρ vs)) ds acc0) fun acc => ∀ G H, Same G1 G → AccAt K w S Gs Hs a G H acc → Stk K w S G0 H0 G ρo σo H → Post H) :
    ∃ W : Nat → Nat → Hp → Prop, (∃ m, W 0 m Hb) ∧ ∀ i m H, W i m H → (J.stop i H ∧ Post H) ∨ (J.go i H ∧ ∃ Nx : Hp → Prop, (∀ H', Nx H' → ∃ m', m' < m ∧ W (i + 1) m' H') ∧
      ∀ x H', J.yld i H x H' → tG K w S vs g x (L2.wipe σ vs) H' fun σ2 H2 => L2.wipe σ2 vs = L2.wipe σ vs ∧ tT K w S mt σ2 H2 fun b H3 =>
        if b = true then tE K w S .val me σ2 H3 fun y H4 => ∃ acc, H4 a = some (.lst acc) ∧ acc.length < sizeLine ∧ Nx (upd H4 a (.lst (acc ++ [y]))) else Nx H3) := by
  let W : Nat → Nat → Hp → Prop := fun i m H => m = ds.length - i ∧ i ≤ ds.length ∧ ∃ G acc, Same G1 G ∧ AccAt K w S Gs Hs a G H acc ∧ Stk K w S G0 H0 G ρ σ H ∧ Stk K w S G0 H0 G ρo σo H ∧ wp (accM (turn1 g mt me (wipeE ρ vs)) (ds.drop i) acc) fun acc => ∀ G H, Same G1 G → AccAt K w S Gs Hs a G H acc → Stk K w S G0 H0 G ρo σo H → Post H
  refine ⟨W, ⟨ds.length, rfl, Nat.zero_le _, Gb, acc0, s1, hb, st, sto, q⟩, ?_⟩
  rintro i m H ⟨rfl, hl, G, acc, sG, A, sk, so, q2⟩
  by_cases hlt : i < ds.length
  · refine .inr ⟨it.go i G H sG A.ext.wf hlt, fun H' => W (i + 1) (ds.length - (i + 1)) H', fun H' h => ⟨_, by omega, h⟩, fun x H' y => ?_⟩
    obtain ⟨d, G3, hd, x3, r3⟩ := it.yld i G H x H' sG A.ext.wf hlt y
    have ed : ds.drop i = d :: ds.drop (i + 1) := by
      obtain ⟨hl', e⟩ := List.getElem?_eq_some_iff.mp hd
      rw [List.drop_eq_getElem_cons hl', e]
    rw [ed] at q2
    have A3 := A.step w0 ha x3
    have k3 := sk.step x3
    have o3 := so.step x3
    obtain ⟨ρ1, hg1, q3⟩ := wp_opt.mp (wp_bind.mp (wp_bind.mp q2))
    refine ⟨G0, H0, G3, _, d, ρ1, k3.wipe vs, r3, hg1, fun σ2 hl2 hk2 _ st2 => ⟨wipe_eq (by rw [hl2, wipe_length]) hk2, ?_⟩⟩
    refine ⟨G0, H0, G3, ρ1, st2, wp_mono (wp_bind.mp q3) fun b q4 G4 H4 x4 => ?_⟩
    have A4 := A3.step w0 ha x4
    have k4 := k3.step x4
    have o4 := o3.step x4
    have s4 : Same G1 G4 := (sG.trans x3.gg).trans x4.gg
    cases b with
    | true =>
      refine ⟨G0, H0, G4, ρ1, st2.step x4, wp_mono (wp_bind.mp q4) fun y q5 v G5 H5 x5 r5 => ?_⟩
      have A5 := A4.step w0 ha x5
      obtain ⟨us, e1, e2⟩ := A5.at_
      by_cases hz : acc.length < sizeLine
      · rw [if_pos hz] at q5
        exact ⟨us, e1, by rw [e2.length]; exact hz, rfl, hlt, G5, acc ++ [y], s4.trans x5.gg, A5.push w0 ha r5 e1, (k4.step x5).poke ha0 A5.no off, (o4.step x5).poke ha0 A5.no offo, q5⟩
      · rw [if_neg hz] at q5
        exact q5.elim
    | false => exact ⟨rfl, hlt, G4, acc, s4, A4, k4, o4, q4⟩
  · have e : i = ds.length := by omega
    subst e
    rw [List.drop_length] at q2
    exact .inl ⟨it.stop G H sG A.ext.wf, q2 G H sG A so⟩
theorem acc_new {K : PySem.W.Frag} {w : World} {S : Src} {G H : Hp} {a : Addr} (wf : Wf S G H) (ha : H a = none) : AccAt K w S G H a G (upd H a (.lst [])) [] := ⟨Ext.own wf ha, wf.gh.free ha, [], upd_same, Rps.nil⟩
theorem acc_done {md : Mode} {G0 H0 G1 H1 G2 H2 : Hp} {a : Addr} {acc : List D} {Q : VK} (hm : md ≠ .read) (w0 : SrcAt S H0) (x1 : Ext S G0 H0 G1 H1) (ha : H1 a = none) (A : AccAt X.K X.w S G1 H1 a G2 H2 acc)
    (k : ∀ v G' H', Ext S G0 H0 G' H' → Res X.K X.w S H0 md (.lst acc) v G' H' → Q v H') : Q (.ref a) H2 := by
  have xx := x1.trans w0 A.ext
  have h0 : H0 a = none := x1.fresh w0 ha
  obtain ⟨vs, e1, e2⟩ := A.at_
  cases md with
  | read => exact absurd rfl hm
  | fresh => exact k _ G2 H2 xx ⟨a, rfl, h0, A.no, vs, e1, e2⟩
  | val => exact k _ _ H2 (xx.freeze w0 h0 A.no e1) (res_lst A.no e2)
theorem comp_sound {md : Mode} {vs : List Nat} {g : Tgt} {mi : Rho → M (List D)} {mt : Rho → M Bool} {me : Rho → M D} {σ : L2.St} {H : Hp} {Q : VK} (hm : md ≠ .read) (h : tE X.K X.w S md (mComp vs g mi mt me) σ H Q) :
    tLc (tI X.K X.w S mi) (tG X.K X.w S vs g) (tT X.K X.w S mt) (tE X.K X.w S .val me) vs σ H Q := by
  obtain ⟨G0, H0, G, ρ, st, q⟩ := h
  refine ⟨G0, H0, G, ρ, st, wp_mono (wp_bind.mp q) fun ds q1 J G1 H1 x1 it a ha => ?_⟩
  have w1 := x1.wf.src
  have st1 := st.step x1
  have ha0 : H0 a = none := st1.ext.fresh st1.src0 ha
  exact lc_loop (Gs := G1) (Hs := H1) w1 ha ha0 (st1.off ha) (st1.poke ha0 (x1.wf.gh.free ha) (st1.off ha)) it (acc_new x1.wf ha) (Same.refl _) (wp_mono (wp_bind.mp q1) fun acc q2 G2 H2 s2 A _ => acc_done hm st.wf.src x1 ha A q2)
theorem f_lc {elt tg iter : Expr} {ifs : List Expr} {scope : Scope} {pos : Pos} {mi : Rho → M (List D)} {g : Tgt} {mt : Rho → M Bool} {me : Rho → M D} (own : List (Str × Nat)) (hc : X.calm = true) (hN : X.N.Nodup) (hi : PIm X S tg iter mi) (ok : BlkOk X.N X.env.scope scope own)
    (hg : ∀ (s : Shared) (H : Hp) (C : Addr) (cl : List (Str × Addr)) (fp : List Addr), PGm (X.blk s H scope (compEnvC scope cl C X.env) fp) S (own.map (·.2)) tg g) (ht : ∀ (s : Shared) (H : Hp) (C : Addr) (cl : List (Str × Addr)) (fp : List Addr), PTsm (X.blk s H scope (compEnvC scope cl C X.env) fp) S ifs mt)
    (he : ∀ (s : Shared) (H : Hp) (C : Addr) (cl : List (Str × Addr)) (fp : List Addr), PEm (X.blk s H scope (compEnvC scope cl C X.env) fp) S elt me) (hs : ∀ x, foldedSetIterable iter X.env x = pure x := by intro _; rfl) :
    PEf X S (.ListComp elt [⟨tg, iter, ifs, 0⟩] scope pos) (mComp (own.map (·.2)) g mi mt me) :=
  (pe_lc hc hN hi ok hg ht he hs).imp fun _ _ _ h => comp_sound (md := .fresh) (fun z => nomatch z) h
theorem tAsg_own {t : TE} {m : Rho → M D} {i : Nat} {E : Ends} {σ : L2.St} {H : Hp} (h : tS X.K X.w S (mOwn i m) E σ H) (ht : ∀ Q, tE X.K X.w S .fresh m σ H Q → t σ H Q) : tAsg t (gName i) E σ H := by
  obtain ⟨G0, H0, G, ρ, st, q⟩ := h
  refine ht _ ⟨G0, H0, G, ρ, st, wp_mono (wp_bind.mp q) fun d q1 v G' H' x ⟨a, e1, n, o⟩ => ?_⟩
  subst e1
  exact q1 G' _ H' x.gg (st.setOwn x n o)
theorem tAsg_val {t : TE} {m : Rho → M D} {i : Nat} {E : Ends} {σ : L2.St} {H : Hp} (h : tS X.K X.w S (mSet i m) E σ H) (ht : ∀ Q, tE X.K X.w S .val m σ H Q → t σ H Q) : tAsg t (gName i) E σ H := by
  obtain ⟨G0, H0, G, ρ, st, q⟩ := h
  exact ht _ ⟨G0, H0, G, ρ, st, wp_mono (wp_bind.mp q) fun d q1 v G' H' x r => q1 G' _ H' x.gg ((st.step x).setVal r)⟩
/-- name = [..] -/
theorem s_ownLc (i : Nat) {y : Str} {py : Pos} {elt tg iter : Expr} {ifs : List Expr} {scope : Scope} {pos spos : Pos} {mi : Rho → M (List D)} {g : Tgt} {mt : Rho → M Bool} {me : Rho → M D} (own : List (Str × Nat)) (hc : X.calm = true) (hN : X.N.Nodup) (hi : PIm X S tg iter mi) (ok : BlkOk X.N X.env.scope scope own)
    (hg : ∀ (s : Shared) (H : Hp) (C : Addr) (cl : List (Str × Addr)) (fp : List Addr), PGm (X.blk s H scope (compEnvC scope cl C X.env) fp) S (own.map (·.2)) tg g) (ht : ∀ (s : Shared) (H : Hp) (C : Addr) (cl : List (Str × Addr)) (fp : List Addr), PTsm (X.blk s H scope (compEnvC scope cl C X.env) fp) S ifs mt)
    (he : ∀ (s : Shared) (H : Hp) (C : Addr) (cl : List (Str × Addr)) (fp : List Addr), PEm (X.blk s H scope (compEnvC scope cl C X.env) fp) S elt me)
    (hsw : swapsWith (.ListComp elt [⟨tg, iter, ifs, 0⟩] scope pos) (some (.Name y py)) spos.line X.env = pure true) (hy : X.N[i]? = some y := by rfl) (hyl : X.env.scope.names.lookup y = some .local := by rfl) (hs : ∀ x, foldedSetIterable iter X.env x = pure x := by intro _; rfl) :
    PSm X S (.Assign [.Name y py] (.ListComp elt [⟨tg, iter, ifs, 0⟩] scope pos) spos) (mOwn i (mComp (own.map (·.2)) g mi mt me)) :=
  (ps_setLc hc hN hy hyl hsw hi ok hg ht he hs).imp fun E σ H h => tAsg_own h fun _ => comp_sound (fun z => nomatch z)
theorem s_setLc (i : Nat) {y : Str} {py : Pos} {elt tg iter : Expr} {ifs : List Expr} {scope : Scope} {pos spos : Pos} {mi : Rho → M (List D)} {g : Tgt} {mt : Rho → M Bool} {me : Rho → M D} (own : List (Str × Nat)) (hc : X.calm = true) (hN : X.N.Nodup) (hi : PIm X S tg iter mi) (ok : BlkOk X.N X.env.scope scope own)
    (hg : ∀ (s : Shared) (H : Hp) (C : Addr) (cl : List (Str × Addr)) (fp : List Addr), PGm (X.blk s H scope (compEnvC scope cl C X.env) fp) S (own.map (·.2)) tg g) (ht : ∀ (s : Shared) (H : Hp) (C : Addr) (cl : List (Str × Addr)) (fp : List Addr), PTsm (X.blk s H scope (compEnvC scope cl C X.env) fp) S ifs mt)
    (he : ∀ (s : Shared) (H : Hp) (C : Addr) (cl : List (Str × Addr)) (fp : List Addr), PEm (X.blk s H scope (compEnvC scope cl C X.env) fp) S elt me)
    (hsw : swapsWith (.ListComp elt [⟨tg, iter, ifs, 0⟩] scope pos) (some (.Name y py)) spos.line X.env = pure true) (hy : X.N[i]? = some y := by rfl) (hyl : X.env.scope.names.lookup y = some .local := by rfl) (hs : ∀ x, foldedSetIterable iter X.env x = pure x := by intro _; rfl) :
    PSm X S (.Assign [.Name y py] (.ListComp elt [⟨tg, iter, ifs, 0⟩] scope pos) spos) (mSet i (mComp (own.map (·.2)) g mi mt me)) :=
  (ps_setLc hc hN hy hyl hsw hi ok hg ht he hs).imp fun E σ H h => tAsg_val h fun _ => comp_sound (fun z => nomatch z)
/-! ### two clauses -/
theorem comp2_sound {md : Mode} {vs vs1 : List Nat} {g g1 : Tgt} {mi mi1 : Rho → M (List D)} {mt mt1 : Rho → M Bool} {me : Rho → M D} {σ : L2.St} {H : Hp} {Q : VK} (hm : md ≠ .read) (h : tE X.K X.w S md (mComp2 vs vs1 g mi mt mi1 g1 mt1 me) σ H Q) :
    tLc2 (tI X.K X.w S mi) (tG X.K X.w S vs g) (tT X.K X.w S mt) (tI X.K X.w S mi1) (tG X.K X.w S vs1 g1) (tT X.K X.w S mt1) (tE X.K X.w S .val me) vs vs1 σ H Q := by
  obtain ⟨G0, H0, G, ρ, st, q⟩ := h
  refine ⟨G0, H0, G, ρ, st, wp_mono (wp_bind.mp q) fun ds q1 J G1 H1 x1 it a ha => ?_⟩
  have w0 := x1.wf.src
  have st1 := st.step x1
  have ha0 : H0 a = none := st1.ext.fresh st1.src0 ha
  have off := st1.off ha
  let W : Nat → Nat → Hp → Prop := fun i m H => m = ds.length - i ∧ i ≤ ds.length ∧ ∃ G acc, Same G1 G ∧ AccAt X.K X.w S G1 H1 a G H acc ∧ Stk X.K X.w S G0 H0 G ρ σ H ∧ wp (accM (turn2 vs1 g mt mi1 g1 mt1 me (wipeE ρ vs)) (ds.drop i) acc) fun acc => ∀ G H, AccAt X.K X.w S G1 H1 a G H acc → Q (.ref a) H
  refine ⟨W, ⟨ds.length, rfl, Nat.zero_le _, G1, [], Same.refl _, acc_new x1.wf ha, st1.poke ha0 (x1.wf.gh.free ha) off, wp_mono (wp_bind.mp q1) fun acc q2 G2 H2 A => acc_done hm st.wf.src x1 ha A q2⟩, ?_⟩
  rintro i m H ⟨rfl, hl, G, acc, sG, A, sk, q2⟩
  by_cases hlt : i < ds.length
  · refine .inr ⟨it.go i G H sG A.ext.wf hlt, fun H' => W (i + 1) (ds.length - (i + 1)) H', fun H' h => ⟨_, by omega, h⟩, fun x H' y => ?_⟩
    obtain ⟨d, G3, hd, x3, r3⟩ := it.yld i G H x H' sG A.ext.wf hlt y
    have ed : ds.drop i = d :: ds.drop (i + 1) := by
      obtain ⟨hl', e⟩ := List.getElem?_eq_some_iff.mp hd
      rw [List.drop_eq_getElem_cons hl', e]
    rw [ed] at q2
    have A3 := A.step w0 ha x3
    have k3 := sk.step x3
    obtain ⟨ρ1, hg1, q3⟩ := wp_opt.mp (wp_bind.mp (wp_bind.mp q2))
    refine ⟨G0, H0, G3, _, d, ρ1, k3.wipe vs, r3, hg1, fun σ2 hl2 hk2 o2 st2 => ⟨wipe_eq (by rw [hl2, wipe_length]) hk2, ?_⟩⟩
    refine ⟨G0, H0, G3, ρ1, st2, wp_mono (wp_bind.mp q3) fun b q4 G4 H4 x4 => ?_⟩
    have A4 := A3.step w0 ha x4
    have k4 := k3.step x4
    have s4 : Same G1 G4 := (sG.trans x3.gg).trans x4.gg
    have st4 := st2.step x4
    have off2 : Off ρ1 σ2 a := off.sub ((OwnSub.wipe ρ σ vs).trans o2)
    cases b with
    | true =>
      refine ⟨G0, H0, G4, ρ1, st4, wp_mono (wp_bind.mp q4) fun ds1 q5 J1 G5 H5 x5 it1 => ?_⟩
      have A5 := A4.step w0 ha x5
      have k5 := k4.step x5
      refine lc_loop2 (G1 := G5) (ρo := ρ) (σo := σ) w0 ha ha0 off2 off (st4.step x5) k5 it1 A5 (Same.refl _) (wp_mono q5 fun acc2 q6 G6 H6 s6 A6 k6 => ?_)
      exact ⟨rfl, hlt, G6, acc2, (s4.trans x5.gg).trans s6, A6, k6, q6⟩
    | false => exact ⟨rfl, hlt, G4, acc, s4, A4, k4, q4⟩
  · have e : i = ds.length := by omega
    subst e
    rw [List.drop_length] at q2
    exact .inl ⟨it.stop G H sG A.ext.wf, q2 G H A⟩
theorem f_lc2 {elt tg iter tg1 iter1 : Expr} {ifs ifs1 : List Expr} {scope : Scope} {pos : Pos} {mi mi1 : Rho → M (List D)} {g g1 : Tgt} {mt mt1 : Rho → M Bool} {me : Rho → M D} (own : List (Str × Nat)) (vs1 : List Nat) (hc : X.calm = true) (hN : X.N.Nodup) (hi : PIm X S tg iter mi) (ok : BlkOk X.N X.env.scope scope own) (hv : ∀ i ∈ vs1, i ∈ own.map (·.2))
    (hg : ∀ (s : Shared) (H : Hp) (C : Addr) (cl : List (Str × Addr)) (fp : List Addr), PGm (X.blk s H scope (compEnvC scope cl C X.env) fp) S (own.map (·.2)) tg g) (ht : ∀ (s : Shared) (H : Hp) (C : Addr) (cl : List (Str × Addr)) (fp : List Addr), PTsm (X.blk s H scope (compEnvC scope cl C X.env) fp) S ifs mt)
    (hi1 : ∀ (s : Shared) (H : Hp) (C : Addr) (cl : List (Str × Addr)) (fp : List Addr), PIm (X.blk s H scope (compEnvC scope cl C X.env) fp) S tg1 iter1 mi1)
    (hg1 : ∀ (s : Shared) (H : Hp) (C : Addr) (cl : List (Str × Addr)) (fp : List Addr), PGm (X.blk s H scope (compEnvC scope cl C X.env) fp) S vs1 tg1 g1) (ht1 : ∀ (s : Shared) (H : Hp) (C : Addr) (cl : List (Str × Addr)) (fp : List Addr), PTsm (X.blk s H scope (compEnvC scope cl C X.env) fp) S ifs1 mt1)
    (he : ∀ (s : Shared) (H : Hp) (C : Addr) (cl : List (Str × Addr)) (fp : List Addr), PEm (X.blk s H scope (compEnvC scope cl C X.env) fp) S elt me) (hs : ∀ x, foldedSetIterable iter X.env x = pure x := by intro _; rfl) (hs1 : ∀ env x, foldedSetIterable iter1 env x = pure x := by intro _ _; rfl) :
    PEf X S (.ListComp elt [⟨tg, iter, ifs, 0⟩, ⟨tg1, iter1, ifs1, 0⟩] scope pos) (mComp2 (own.map (·.2)) vs1 g mi mt mi1 g1 mt1 me) :=
  (pe_lc2 hc hN hi ok hv hg ht hi1 hg1 ht1 he hs hs1).imp fun _ _ _ h => comp2_sound (md := .fresh) (fun z => nomatch z) h
end
end PL

/-! PL9: defs that run where no guard stands; their meanings; calls; the law's end -/
namespace PL
open PySem PySem.Spec PyProof.Rows L2

abbrev SpM := List V → Hp → VK → Prop
structure FnG (P : Program) (w : World) (K : PySem.W.Frag) (mg : Str → Option Value) (base : Heap) (k : Nat) (f : Addr) (fd : FuncData) (ps : List Str) (sp : SpM) : Prop where
  len : ∀ vs H Q, sp vs H Q → vs.length = ps.length
  go : ∀ (A : Around) (outer : List Env) (s : Shared) (H : Hp) (args : Args) (us : List Value) (vs : List V) (Q : VK),
    Room k A → A.guards = some [] → Env0 P w K mg base A outer s H → BindsTo s fd args (ps.zip us) → Vals vs us → sp vs H Q → codeAny (model P w) A (.call (.ref f) args) (CR CX0 outer P w H s Q E0) s
section
variable {P : Program} {w : World} {K : PySem.W.Frag} {mg : Str → Option Value} {base : Heap}
theorem FnG.imp {k : Nat} {f : Addr} {fd : FuncData} {ps : List Str} {sp sp' : SpM} (F : FnG P w K mg base k f fd ps sp) (h : ∀ vs H Q, sp' vs H Q → sp vs H Q) : FnG P w K mg base k f fd ps sp' :=
  ⟨fun vs H Q q => F.len vs H Q (h _ _ _ q), fun A o s H args us vs Q r g e b v q => F.go A o s H args us vs Q r g e b v (h _ _ _ q)⟩
theorem FnG.up {j k : Nat} {f : Addr} {fd : FuncData} {ps : List Str} {sp : SpM} (F : FnG P w K mg base j f fd ps sp) (h : j ≤ k) : FnG P w K mg base k f fd ps sp :=
  ⟨F.len, fun A o s H args us vs Q r => F.go A o s H args us vs Q (r.mono h)⟩
/-- a def of the text -/
theorem fnG_of {x qual : Str} {st : Stmt} {f : Addr} {fd : FuncData} {N ps : List Str} {k : Nat} {sp : SpM} (F : Fun K x qual st f fd) (S : FnScope N ps (defScope st)) (len : ∀ vs H Q, sp vs H Q → vs.length = ps.length)
    (body : ∀ (cdv : Value) (A : Around) (outer : List Env) (s : Shared) (H : Hp) (vs : List V) (Q : VK), Room k (A.deeper (envOfC qual (defScope st) s.heap.objs.size f cdv)) → A.guards = some [] → sp vs H Q →
      ∃ t, PSs (cxOf CX0 P w K mg base N qual (defScope st) f cdv A outer s H E0).nox (defBody st) t ∧ t { nx := fun _ H' => Q .non H', rt := Q } (start N vs) H) : FnG P w K mg base (k + 1) f fd ps sp := by
  obtain ⟨oc, od, kV, doc, pm, an, cdv, ct, osl, e1, lk, hcd⟩ := F.ex
  subst e1
  refine ⟨len, fun A outer s H args us vs Q room hg env hb rv hsp => ?_⟩
  have keep : ∀ b o, base.get? b = some o → s.heap.get? b = some o := fun b o e => (env.bs b o e).1
  have inK : K.In s.heap := env.mod.kin.keeps keep
  have kinds : ∀ y ∈ ps.zip us, (defScope st).names.lookup y.1 = some .local ∨ ((defScope st).names.lookup y.1 = some .cell ∧ ((cellsFrom (s.heap.objs.size + 1) (defScope st).names []).lookup y.1).isSome = true) := by
    intro y hy
    have hm : y.1 ∈ ps := (List.of_mem_zip (show (y.1, y.2) ∈ ps.zip us from hy)).1
    cases S.par y.1 hm with
    | inl q => exact .inl q
    | inr q => exact .inr ⟨q, PySem.W.cellsFrom_some _ _ _ (.inl q)⟩
  refine codeAny_call_function room.depth (inK _ _ lk) rfl S.co S.gen rfl (PySem.W.codeRec_of inK hcd) (hb _ _ _ _ ?_)
  refine wpAny_newFunctionEnv_cells S.kind kinds fun e he s1 x => ?_
  subst he
  refine ⟨(env.mod.nolimit.keeps keep).keeps x.toInCall.keep, codeAny_func ?_⟩
  obtain ⟨t, ht, hq⟩ := body cdv A outer s H vs Q (room.deeper _) hg hsp
  have I0 : Inv (cxOf CX0 P w K mg base N qual (defScope st) f cdv A outer s H E0) [] (start N vs) H s1 := inv_start S room.hd env (len _ _ _ hsp) rv x
  have ht' := ht.nox
  refine wpAny_mono (ht'.run [] s1 (start N vs) H _ I0 hq) (fun fl s' hs => ?_) fun _ _ hs => hs
  have close : ∀ (σ' : L2.St) (H' : Hp) (v : V) (u : Value), Inv (cxOf CX0 P w K mg base N qual (defScope st) f cdv A outer s H E0) [] σ' H' s' → RelV v u → Q v H' → CE outer P w H s Q u s' :=
    fun σ' H' v u J r q => ⟨v, H', J.os, J.bare, J.base, J.hok, r, q⟩
  cases fl with
  | next => obtain ⟨σ', H', J, q⟩ := hs; exact close σ' H' .non .none J rfl q
  | ret u => obtain ⟨v, σ', H', J, r, q⟩ := hs; exact close σ' H' v u J r q
  | brk => obtain ⟨_, _, _, q⟩ := hs; exact q.elim
  | cont => obtain ⟨_, _, _, q⟩ := hs; exact q.elim
end
section
variable {X : Cx} {S : Src}
/-- the callee runs -/
theorem run_g {k : Nat} {f : Addr} {fd : FuncData} {ps : List Str} {sp : SpM} {pins : List (Addr × Obj)} {σ : L2.St} {H : Hp} {s : Shared} {Q : VK} {us : List Value} {vs : List V} (F : FnG X.prog X.w X.K X.mg X.base k f fd ps sp) (hr : Room k X.A) (hgd : X.A.guards = some []) (hb : Binds X.K fd ps [])
    (I : Inv X pins σ H s) (r : Vals vs us) (h : sp vs H Q) : wpAny (model X.prog X.w) X.A (call (.ref f) us) (EP X pins σ Q) X.xe s := by
  have el : (us ++ []).length = ps.length := by rw [List.append_nil, ← r.length]; exact F.len _ _ _ h
  have bt := hb s us I.kIn el
  rw [List.append_nil] at bt
  refine wpAny_call (codeAny_mono (F.go X.A X.stack s H ⟨us, []⟩ us vs Q hr hgd I.env0 bt r h) fun res s' hq => ?_)
  match res, hq with
  | .ok (.ret u), hq => exact I.after hq
  | .ok .next, hq => exact hq.elim
  | .ok .brk, hq => exact hq.elim
  | .ok .cont, hq => exact hq.elim
  | .error e, hq => exact hq.elim
theorem pe_g {k : Nat} {f : Addr} {fd : FuncData} {ps : List Str} {sp : SpM} {x : Str} {p pos : Pos} {e : Expr} {es : List Expr} {t : TA} (F : FnG X.prog X.w X.K X.mg X.base k f fd ps sp) (hr : Room k X.A) (hgd : X.A.guards = some []) (hg : Gl X x) (hm : X.mg x = some (.ref f)) (hk : PySem.W.keepIn X.K (.ref f) = true) (hb : Binds X.K fd ps [])
    (ha : PA X (e :: es) t) (hdb : (x == ("__debug__" : Str)) = false := by decide) (he : starEach (e :: es) X.env = (false, eval e X.env) :: starEach es X.env := by rfl) (hpl : (backTo pos (starEach es X.env)).any (·.1) = false := by rfl) :
    PE X (.Call (.Name x p) (e :: es) [] pos) (fun σ H Q => t σ H fun vs H1 => sp vs H1 Q) := by
  refine ⟨fun pins s σ H Q I h => ?_⟩
  refine wpAny_Call_Name_kw (ld_glob I hg hm (PySem.W.callWith_K (h₀ := X.base) I.ok.mod.kin hk (thn (ha.run pos pins s σ H _ I h) fun us s1 q0 => ?_) he hpl) hdb)
  obtain ⟨vs, H1, I1, r, q⟩ := q0
  exact ⟨I1.kIn, run_g F hr hgd hb I1 r q⟩

/-! ### a def's promise, by its meaning -/
def spM (K : PySem.W.Frag) (w : World) (src : Bool) (n : Nat) (fn : List D → M D) : SpM := fun vs H Q =>
  ∃ (S : Src) (G : Hp) (ds : List D) (ws : List V), Wf S G H ∧ ds.length = n ∧ (if src = true then ∃ p, S = some p ∧ vs = .ref p.1 :: ws else S = none ∧ vs = ws) ∧ Rps K w G ds ws ∧
    wp (fn ds) fun d => ∀ v G' H', Ext S G H G' H' → Rp K w G' d v → Q v H'
abbrev FnM (P : Program) (w : World) (K : PySem.W.Frag) (mg : Str → Option Value) (base : Heap) (k : Nat) (f : Addr) (fd : FuncData) (ps : List Str) (src : Bool) (n : Nat) (fn : List D → M D) : Prop := FnG P w K mg base k f fd ps (spM K w src n fn)
theorem Ext.ofNone {G H G' H' : Hp} (e : Ext none G H G' H') (wf : Wf S G H) : Ext S G H G' H' := by
  have all : ∀ b o, H b = some o → H' b = some o := fun b o q => e.fr b o q (fun p hp => nomatch hp)
  refine ⟨e.gg, ⟨e.wf.gh, fun p hp => ?_, fun p hp => ?_⟩, fun b o q _ => all b o q, e.new⟩
  · obtain ⟨ne, cells, l, m, t, h1, h2, r⟩ := wf.src p hp
    exact ⟨ne, cells, l, m, t, all _ _ h1, all _ _ h2, r⟩
  · obtain ⟨ne, cells, l, m, t, h1, h2, r⟩ := wf.src p hp
    obtain ⟨g1, g2⟩ := wf.gs p hp
    constructor
    · cases q : G' p.1 with
      | none => rfl
      | some u =>
        have := e.new p.1 g1 (by rw [q]; simp)
        rw [h1] at this
        cases this
    · cases q : G' p.2 with
      | none => rfl
      | some u =>
        have := e.new p.2 g2 (by rw [q]; simp)
        rw [h2] at this
        cases this
theorem Wf.toNone {G H : Hp} (wf : Wf S G H) : Wf none G H := ⟨wf.gh, (fun _ hp => nomatch hp), (fun _ hp => nomatch hp)⟩
def mFn (n : Nat) (fn : List D → M D) (r : Rho → M (List D)) : Rho → M D := fun ρ => (r ρ).bind fun ds => if ds.length = n then fn ds else .fail
theorem x_fn {k n : Nat} {f : Addr} {fd : FuncData} {ps : List Str} {fn : List D → M D} {x : Str} {p pos : Pos} {e : Expr} {es : List Expr} {r : Rho → M (List D)} (F : FnM X.prog X.w X.K X.mg X.base k f fd ps false n fn) (hm : X.mg x = some (.ref f)) (hk : PySem.W.keepIn X.K (.ref f) = true) (hb : Binds X.K fd ps []) (hr : Room k X.A) (hgd : X.A.guards = some [])
    (ha : PAm X S (e :: es) r) (hg : Gl X x := by rfl) (hdb : (x == ("__debug__" : Str)) = false := by decide) (he : starEach (e :: es) X.env = (false, eval e X.env) :: starEach es X.env := by rfl) (hpl : (backTo pos (starEach es X.env)).any (·.1) = false := by rfl) :
    PEm X S (.Call (.Name x p) (e :: es) [] pos) (mFn n fn r) :=
  (pe_g F hr hgd hg hm hk hb ha hdb he hpl).imp fun σ H Q ⟨G0, H0, G, ρ, st, q⟩ => ⟨G0, H0, G, ρ, st, wp_mono (wp_bind.mp q) fun ds q1 vs G1 H1 x1 rr => by
    by_cases hn : ds.length = n
    · rw [if_pos hn] at q1
      exact ⟨none, G1, ds, vs, x1.wf.toNone, hn, ⟨rfl, rfl⟩, rr, wp_mono q1 fun d k v G' H' x2 r2 => k v G' H' (x1.trans st.wf.src (x2.ofNone x1.wf)) r2⟩
    · rw [if_neg hn] at q1
      exact q1.elim⟩
/-- f(source, ..) -/
def mFnS (i n : Nat) (fn : List D → M D) (r : Rho → M (List D)) : Rho → M D := fun ρ => match ρ[i]? with
  | some .src => (r ρ).bind fun ds => if ds.length = n then fn ds else .fail
  | _ => .fail
theorem x_fnS (i : Nat) {k n : Nat} {f : Addr} {fd : FuncData} {ps : List Str} {fn : List D → M D} {x sx : Str} {p pos ppos : Pos} {es : List Expr} {r : Rho → M (List D)} (F : FnM X.prog X.w X.K X.mg X.base k f fd ps true n fn) (hm : X.mg x = some (.ref f)) (hk : PySem.W.keepIn X.K (.ref f) = true) (hb : Binds X.K fd ps []) (hr : Room k X.A) (hgd : X.A.guards = some [])
    (ha : PAm X S es r) (hN : X.N[i]? = some sx := by rfl) (hv : Vis X.env.scope sx := by first | exact Or.inl rfl | exact Or.inr (Or.inl rfl) | exact Or.inr (Or.inr rfl)) (hg : Gl X x := by rfl) (hsd : (sx == ("__debug__" : Str)) = false := by decide) (hcd : (sx == ("__classdict__" : Str)) = false := by decide)
    (hdb : (x == ("__debug__" : Str)) = false := by decide) (he : starEach (.Name sx ppos :: es) X.env = (false, eval (.Name sx ppos) X.env) :: starEach es X.env := by rfl) (hpl : (backTo pos (starEach es X.env)).any (·.1) = false := by rfl) :
    PEm X S (.Call (.Name x p) (.Name sx ppos :: es) [] pos) (mFnS i n fn r) :=
  (pe_g F hr hgd hg hm hk hb (pa_cons (pe_var (i := i) hN hv hsd hcd) ha he) hdb he hpl).imp fun σ H Q ⟨G0, H0, G, ρ, st, q⟩ => by
    unfold mFnS at q
    cases hi : ρ[i]? with
    | none => rw [hi] at q; exact q.elim
    | some s =>
      rw [hi] at q
      cases s with
      | src =>
        obtain ⟨pr, e1, e2⟩ := st.slots i _ hi
        refine ⟨_, e2, G0, H0, G, ρ, st, wp_mono (wp_bind.mp q) fun ds q1 vs G1 H1 x1 rr => ?_⟩
        by_cases hn : ds.length = n
        · rw [if_pos hn] at q1
          exact ⟨S, G1, ds, vs, x1.wf, hn, ⟨pr, e1, rfl⟩, rr, wp_mono q1 fun d k v G' H' x2 r2 => k v G' H' (x1.trans st.wf.src x2) r2⟩
        · rw [if_neg hn] at q1
          exact q1.elim
      | _ => exact q.elim

/-! ### a def by its body's meaning -/
def rho0 (src : Bool) (n : Nat) (ds : List D) : Rho := (if src = true then [.src] else []) ++ ds.map .val ++ List.replicate (n - ((if src = true then 1 else 0) + ds.length)) .no
def fnOf (src : Bool) (n : Nat) (m : Rho → M Out) : List D → M D := fun ds => (m (rho0 src n ds)).bind fun o => match o with
  | .rt d => .ret d
  | _ => .fail
theorem Rps.at {K : PySem.W.Frag} {w : World} {G : Hp} {ds : List D} {vs : List V} {i : Nat} {d : D} (h : Rps K w G ds vs) (e : ds[i]? = some d) : ∃ v, vs[i]? = some v ∧ Rp K w G d v := h.get e
theorem stk0 {K : PySem.W.Frag} {w : World} {S : Src} {G H : Hp} {src : Bool} {N : List Str} {ds : List D} {vs ws : List V} (wf : Wf S G H) (hs : if src = true then ∃ p, S = some p ∧ vs = .ref p.1 :: ws else S = none ∧ vs = ws) (hr : Rps K w G ds ws) (hl : vs.length ≤ N.length) :
    Stk K w S G H G (rho0 src N.length ds) (start N vs) H := by
  have hlen := hr.length
  have val : ∀ (i : Nat) (s : Slot), (ds.map Slot.val)[i]? = some s → SlotOk K w S H G H ((ws.map some)[i]?) s := fun i s e => by
    rw [List.getElem?_map, Option.map_eq_some_iff] at e
    obtain ⟨d, e1, e2⟩ := e
    subst e2
    obtain ⟨v, e3, r⟩ := hr.get e1
    exact ⟨v, by rw [List.getElem?_map, e3]; rfl, r⟩
  cases src with
  | true =>
    obtain ⟨p, hp, rfl⟩ := hs
    have hl' : ws.length + 1 ≤ N.length := by simpa using hl
    refine ⟨wf.src, Ext.refl wf, ?_, fun i s e => ?_, fun i j d e _ h1 _ => ?_⟩
    · simp [rho0, L2.start]
      omega
    · cases i with
      | zero =>
        simp only [rho0, if_true, List.cons_append, List.nil_append, List.getElem?_cons_zero, Option.some.injEq] at e
        subst e
        exact ⟨p, hp, by simp [L2.start]⟩
      | succ i =>
        simp only [rho0, if_true, List.cons_append, List.nil_append, List.getElem?_cons_succ] at e
        simp only [L2.start, List.map_cons, List.cons_append, List.getElem?_cons_succ]
        by_cases hi : i < ds.length
        · rw [List.getElem?_append_left (by simpa using hi)] at e
          rw [List.getElem?_append_left (by simpa [hlen] using hi)]
          exact val i s e
        · rw [List.getElem?_append_right (by simpa using hi)] at e
          have := List.mem_of_getElem? e
          rw [List.mem_replicate] at this
          rw [this.2]
          trivial
    · exfalso
      have := List.mem_of_getElem? h1
      simp [rho0] at this
  | false =>
    obtain ⟨hp, rfl⟩ := hs
    refine ⟨wf.src, Ext.refl wf, ?_, fun i s e => ?_, fun i j d e _ h1 _ => ?_⟩
    · simp [rho0, L2.start]
      omega
    · simp only [rho0, Bool.false_eq_true, if_false, List.nil_append] at e
      simp only [L2.start]
      by_cases hi : i < ds.length
      · rw [List.getElem?_append_left (by simpa using hi)] at e
        rw [List.getElem?_append_left (by simpa [hlen] using hi)]
        exact val i s e
      · rw [List.getElem?_append_right (by simpa using hi)] at e
        have := List.mem_of_getElem? e
        rw [List.mem_replicate] at this
        rw [this.2]
        trivial
    · exfalso
      have := List.mem_of_getElem? h1
      simp [rho0] at this
theorem ok_def {P : Program} {w : World} {K : PySem.W.Frag} {mg : Str → Option Value} {base : Heap} {x qual : Str} {st : Stmt} {f : Addr} {fd : FuncData} {N ps : List Str} {k n : Nat} {src : Bool} {m : Rho → M Out} (F : Fun K x qual st f fd) (S : FnScope N ps (defScope st)) (hn : (if src = true then n + 1 else n) = ps.length) (hN : ps.length ≤ N.length)
    (body : ∀ (cdv : Value) (A : Around) (outer : List Env) (s : Shared) (H : Hp) (S : Src), Room k (A.deeper (envOfC qual (defScope st) s.heap.objs.size f cdv)) → (A.deeper (envOfC qual (defScope st) s.heap.objs.size f cdv)).guards = some [] →
      PBm (cxOf CX0 P w K mg base N qual (defScope st) f cdv A outer s H E0).nox S (defBody st) m) : FnM P w K mg base (k + 1) f fd ps src n (fnOf src N.length m) := by
  have len : ∀ vs H Q, spM K w src n (fnOf src N.length m) vs H Q → vs.length = ps.length := fun vs H Q ⟨S, G, ds, ws, _, hd, hs, hr, _⟩ => by
    have := hr.length
    cases src with
    | true =>
      obtain ⟨p, _, rfl⟩ := hs
      simp only [if_true] at hn
      rw [List.length_cons, this, hd]
      exact hn
    | false =>
      obtain ⟨_, rfl⟩ := hs
      simp only [Bool.false_eq_true, if_false] at hn
      rw [this, hd]
      exact hn
  refine fnG_of F S len fun cdv A outer s H vs Q room hg hsp => ?_
  have hl := len _ _ _ hsp
  obtain ⟨S', G, ds, ws, wf, hd, hs, hr, q⟩ := hsp
  refine ⟨_, body cdv A outer s H S' room hg, G, H, G, _, stk0 wf hs hr (by rw [hl]; exact hN), wp_mono (wp_bind.mp q) fun o q1 => ?_⟩
  cases o with
  | rt d => exact fun v G' H' x r => q1 v G' H' x r
  | _ => exact q1.elim
end
end PL

/-! PL10: dicts: how they are looked up and stored, by data -/
namespace PL
open PySem PySem.Spec PyProof.Rows L2

/-! ### lists of entries -/
section
variable {κ α β : Type} [DecidableEq κ]
def at3 (xs : List (κ × α × β)) (k : κ) : Option β := (xs.find? fun x => decide (x.1 = k)).map (·.2.2)
def set3 (k : κ) (v : β) (x : κ × α × β) : κ × α × β := if x.1 = k then (x.1, x.2.1, v) else x
def put3 (xs : List (κ × α × β)) (k : κ) (a : α) (v : β) : List (κ × α × β) := if (xs.any fun x => decide (x.1 = k)) = true then xs.map (set3 k v) else xs ++ [(k, a, v)]
def at2 (xs : List (κ × β)) (k : κ) : Option β := (xs.find? fun x => decide (x.1 = k)).map (·.2)
def put2 (xs : List (κ × β)) (k : κ) (v : β) : List (κ × β) := if (xs.any fun x => decide (x.1 = k)) = true then xs.map (fun x => if x.1 = k then (x.1, v) else x) else xs ++ [(k, v)]
theorem set3_fst (k : κ) (v : β) (x : κ × α × β) : (set3 k v x).1 = x.1 := by unfold set3; split <;> rfl
theorem put3_nodup {xs : List (κ × α × β)} (h : (xs.map (·.1)).Nodup) (k : κ) (a : α) (v : β) : ((put3 xs k a v).map (·.1)).Nodup := by
  unfold put3
  split
  · rw [List.map_map, show ((fun x : κ × α × β => x.1) ∘ set3 k v) = (fun x => x.1) from funext fun x => set3_fst k v x]
    exact h
  · rename_i hn
    rw [List.map_append, List.nodup_append]
    refine ⟨h, by simp, fun x hx y hy e => hn ?_⟩
    simp only [List.map_cons, List.map_nil, List.mem_singleton] at hy
    subst hy
    obtain ⟨z, hz, e2⟩ := List.mem_map.mp hx
    exact List.any_eq_true.mpr ⟨z, hz, decide_eq_true (e2.trans e)⟩
theorem put3_len (xs : List (κ × α × β)) (k : κ) (a : α) (v : β) : (put3 xs k a v).length = if (xs.any fun x => decide (x.1 = k)) = true then xs.length else xs.length + 1 := by
  unfold put3
  split <;> simp
end
section
variable {κ α β α' β' : Type} [DecidableEq κ]
theorem at3_pair {R : κ × α × β → κ × α' × β' → Prop} (hk : ∀ x y, R x y → x.1 = y.1) : ∀ {xs : List (κ × α × β)} {us : List (κ × α' × β')} (k : κ), Paired R xs us →
    (at3 xs k = none ∧ at3 us k = none) ∨ ∃ x u, at3 xs k = some x.2.2 ∧ at3 us k = some u.2.2 ∧ R x u ∧ x ∈ xs
  | _, _, k, .nil => .inl ⟨rfl, rfl⟩
  | _, _, k, .cons (a := x) (b := u) r t => by
    by_cases h : x.1 = k
    · refine .inr ⟨x, u, ?_, ?_, r, List.mem_cons_self⟩
      · simp [at3, h]
      · simp [at3, (hk _ _ r).symm.trans h]
    · have h' : ¬ u.1 = k := fun e => h ((hk _ _ r).trans e)
      rcases at3_pair hk k t with ⟨a, b⟩ | ⟨y, z, a, b, c, d⟩
      · exact .inl ⟨by simpa [at3, h] using a, by simpa [at3, h'] using b⟩
      · exact .inr ⟨y, z, by simpa [at3, h] using a, by simpa [at3, h'] using b, c, List.mem_cons_of_mem _ d⟩
theorem any_pair {R : κ × α × β → κ × α' × β' → Prop} (hk : ∀ x y, R x y → x.1 = y.1) : ∀ {xs : List (κ × α × β)} {us : List (κ × α' × β')} (k : κ), Paired R xs us → (xs.any fun x => decide (x.1 = k)) = us.any fun x => decide (x.1 = k)
  | _, _, k, .nil => rfl
  | _, _, k, .cons (a := x) (b := u) r t => by
    simp only [List.any_cons, any_pair hk k t, hk _ _ r]
theorem map_pair {R : κ × α × β → κ × α' × β' → Prop} (f : κ × α × β → κ × α × β) (g : κ × α' × β' → κ × α' × β') (hfg : ∀ x y, R x y → R (f x) (g y)) : ∀ {xs : List (κ × α × β)} {us : List (κ × α' × β')}, Paired R xs us → Paired R (xs.map f) (us.map g)
  | _, _, .nil => .nil
  | _, _, .cons r t => .cons (hfg _ _ r) (map_pair f g hfg t)
theorem put3_pair {R : κ × α × β → κ × α' × β' → Prop} (hk : ∀ x y, R x y → x.1 = y.1) {xs : List (κ × α × β)} {us : List (κ × α' × β')} {k : κ} {a : α} {v : β} {a' : α'} {v' : β'} (h : Paired R xs us) (new : R (k, a, v) (k, a', v')) (old : ∀ x y, R x y → R (x.1, x.2.1, v) (y.1, y.2.1, v')) :
    Paired R (put3 xs k a v) (put3 us k a' v') := by
  unfold put3
  rw [any_pair hk k h]
  split
  · refine map_pair _ _ (fun x y r => ?_) h
    unfold set3
    rw [← hk _ _ r]
    split
    · have := old _ _ r
      rw [← hk _ _ r] at this
      exact this
    · exact r
  · exact h.snoc new
end

/-! ### keys -/
def ktup : NestedKey → Bool
  | .tup ks => decide (NestedKey.depth (.tup ks) ≤ 8)
  | _ => false
def kmix : NestedKey → Option Key
  | .num i => some (.inl i)
  | .text x => some (.inr x)
  | _ => none
/-- k is looked up in a dict with the keys ks -/
def kOk (k : NestedKey) (ks : List NestedKey) : Bool := (ktup k && ks.all ktup) || ((kmix k).isSome && ks.all fun x => (kmix x).isSome)

section
variable {X : Cx} {S : Src} {G H : Hp} {s : Shared} {pins : List (Addr × Obj)} {σ : L2.St}
mutual
theorem kp_is (I : Inv X pins σ H s) (e : Same G H) : ∀ (k : NestedKey) (v : V) (u : Value), Kp X.K G k v → RelV v u → NestedIs s.heap k u
  | .none, v, u, h, r => by
    simp only [Kp] at h
    subst h
    cases r
    exact .none
  | .num i, v, u, h, r => by
    simp only [Kp] at h
    subst h
    obtain ⟨t, rfl⟩ := r
    exact .int i t
  | .text x, v, u, h, r => by
    simp only [Kp] at h
    subst h
    obtain ⟨t, rfl⟩ := r
    exact .text x t
  | .tup ks, v, u, h, r => by
    simp only [Kp] at h
    obtain ⟨a, vs, rfl, h1, h2⟩ := h
    cases r
    obtain ⟨its, rv, ⟨o, e1, hc, n, hdat⟩, _⟩ := I.tuple (sqT_same e h1)
    exact .tup e1 hc hdat (by simpa using kps_is I e ks vs its h2 rv)
theorem kps_is (I : Inv X pins σ H s) (e : Same G H) : ∀ (ks : List NestedKey) (vs : List V) (us : List Value), Kps X.K G ks vs → Vals vs us → NestedAll s.heap ks us
  | [], vs, us, h, r => by
    simp only [Kps] at h
    subst h
    cases r
    exact .nil
  | k :: ks, vs, us, h, r => by
    simp only [Kps] at h
    obtain ⟨v, vr, rfl, h1, h2⟩ := h
    cases r with
    | cons r rr => exact .cons (kp_is I e k v _ h1 r) (kps_is I e ks vr _ h2 rr)
end
end
abbrev Xs := List (NestedKey × V × V)
theorem kmix_inj {a b : NestedKey} {k : Key} (ha : kmix a = some k) (hb : kmix b = some k) : a = b := by
  cases a <;> cases b <;> simp [kmix] at ha hb <;> subst ha <;> cases hb <;> rfl
theorem keyH_hash {w : World} {a : NestedKey} {k : Key} (ha : kmix a = some k) : keyH w k = a.hash w := by
  cases a <;> simp [kmix] at ha <;> subst ha <;> rfl
theorem kmix_iff {a b : NestedKey} {k q : Key} (ha : kmix a = some k) (hb : kmix b = some q) : a = b ↔ k = q :=
  ⟨fun e => by subst e; rw [ha] at hb; exact Option.some.inj hb, fun e => by subst e; exact kmix_inj ha hb⟩
theorem kp_mix {K : PySem.W.Frag} {G : Hp} {k : NestedKey} {q : Key} {v : V} (e : kmix k = some q) (h : Kp K G k v) : v = kV q := by
  cases k <;> simp [kmix] at e <;> subst e <;> simp only [Kp] at h <;> exact h
theorem kp_tup {K : PySem.W.Frag} {G : Hp} {k : NestedKey} {v : V} (e : ktup k = true) (h : Kp K G k v) : ∃ a, v = .ref a := by
  cases k <;> simp [ktup] at e
  simp only [Kp] at h
  obtain ⟨a, _, e, _⟩ := h
  exact ⟨a, e⟩
/-! ### by kinds of keys -/
def TX (x : NestedKey × V × V) (y : NestedKey × Addr × Value) : Prop := x.1 = y.1 ∧ x.2.1 = .ref y.2.1 ∧ RelV x.2.2 y.2.2
def MX (x : NestedKey × V × V) (y : Key × Value) : Prop := kmix x.1 = some y.1 ∧ x.2.1 = kV y.1 ∧ RelV x.2.2 y.2
section
variable {P : Program} {w : World} {A : Around} {E : Value → Shared → Prop} {s : Shared} {d : Addr} {xs : Xs}
theorem paired_mem {α β : Type} {R : α → β → Prop} {xs : List α} {ys : List β} (h : Paired R xs ys) : ∀ y ∈ ys, ∃ x ∈ xs, R x y := by
  induction h with
  | nil => exact fun _ q => nomatch q
  | cons r t ih =>
    intro y hy
    rcases List.mem_cons.mp hy with q | q
    · subst q
      exact ⟨_, List.mem_cons_self, r⟩
    · obtain ⟨x, hx, hr⟩ := ih y q
      exact ⟨x, List.mem_cons_of_mem _ hx, hr⟩
theorem tx_keys {ys : List (NestedKey × Addr × Value)} (h : Paired TX xs ys) : xs.map (·.1) = ys.map (·.1) := by
  induction h with
  | nil => rfl
  | cons r t ih => rw [List.map_cons, List.map_cons, ih, r.1]
theorem dobj_tup {h : Heap} (x : DObj w d xs h) (hk : ∀ x ∈ xs, ktup x.1 = true ∧ (∃ a, x.2.1 = .ref a) ∧ ∀ u, RelV x.2.1 u → NestedIs h x.1 u) : ∃ ys, Paired TX xs ys ∧ h.DictOfH (nestedKind P w) d ys := by
  obtain ⟨hz, hS, hn, o, es, ep, ho, hc, hd, hp⟩ := x
  have key : ∀ {xs : Xs} {es : List DictEntry}, Paired (EntOk w) xs es → (∀ x ∈ xs, ktup x.1 = true ∧ (∃ a, x.2.1 = .ref a) ∧ ∀ u, RelV x.2.1 u → NestedIs h x.1 u) →
      ∃ ys, Paired TX xs ys ∧ es = ys.map (entryOfKey (nestedKind P w)) ∧ ∀ y ∈ ys, (nestedKind P w).is h y.1 y.2.1 := by
    intro xs es hp
    induction hp with
    | nil => exact fun _ => ⟨[], .nil, rfl, fun _ q => nomatch q⟩
    | @cons a b l1 l2 r t ih =>
      intro hk
      obtain ⟨ys, h1, h2, h3⟩ := ih fun x hx => hk x (List.mem_cons_of_mem _ hx)
      obtain ⟨t1, ⟨p, t2⟩, t3⟩ := hk a List.mem_cons_self
      obtain ⟨q1, q2, q3⟩ := r
      have q2' := q2
      rw [t2] at q2'
      have e : b.key = .ref p := q2'
      refine ⟨(a.1, p, b.val) :: ys, .cons ⟨rfl, t2, q3⟩ h1, ?_, fun y hy => ?_⟩
      · rw [h2, List.map_cons]
        congr 1
        cases b
        simp only at q1 e
        rw [q1, e]
        rfl
      · rcases List.mem_cons.mp hy with q | q
        · subst q
          have z := t3 _ q2
          rw [e] at z
          obtain ⟨k, kv, vv⟩ := a
          cases k <;> simp only [ktup, Bool.false_eq_true, decide_eq_true_eq] at t1
          exact ⟨z, t1⟩
        · exact h3 y q
  obtain ⟨ys, h1, h2, h3⟩ := key hp hk
  exact ⟨ys, h1, o, es, ep, ho, hc, hd, h2, h3, by rw [← tx_keys h1]; exact hn⟩
theorem tup_dobj {h : Heap} {ys : List (NestedKey × Addr × Value)} (hz : xs.length ≤ sizeLine) (hS : (d == sysModules) = false) (hp : Paired TX xs ys) (x : h.DictOfH (nestedKind P w) d ys) : DObj w d xs h := by
  obtain ⟨o, es, ep, ho, hc, hd, he, _, hn⟩ := x
  refine ⟨hz, hS, by rw [tx_keys hp]; exact hn, o, es, ep, ho, hc, hd, ?_⟩
  rw [he]
  have key : ∀ {xs : Xs} {ys : List (NestedKey × Addr × Value)}, Paired TX xs ys → Paired (EntOk w) xs (ys.map (entryOfKey (nestedKind P w))) := by
    intro xs ys hp
    induction hp with
    | nil => exact .nil
    | cons r t ih => exact .cons ⟨by rw [r.1]; rfl, by rw [r.2.1]; rfl, r.2.2⟩ ih
  exact key hp
theorem mx_nodup {ys : List (Key × Value)} (h : Paired MX xs ys) : (xs.map (·.1)).Nodup ↔ (ys.map (·.1)).Nodup := by
  induction h with
  | nil => simp
  | @cons x y l1 l2 r t ih =>
    rw [List.map_cons, List.map_cons, List.nodup_cons, List.nodup_cons, ih]
    refine and_congr (not_congr ?_) Iff.rfl
    clear ih
    induction t with
    | nil => simp
    | cons r2 t2 ih2 =>
      rw [List.map_cons, List.map_cons, List.mem_cons, List.mem_cons, ih2, kmix_iff r.1 r2.1]
theorem dobj_mix {h : Heap} (x : DObj w d xs h) (hk : ∀ x ∈ xs, ∃ k, kmix x.1 = some k ∧ x.2.1 = kV k) : ∃ ys, Paired MX xs ys ∧ h.DictOf (mixKind P w) d ys := by
  obtain ⟨hz, hS, hn, o, es, ep, ho, hc, hd, hp⟩ := x
  have key : ∀ {xs : Xs} {es : List DictEntry}, Paired (EntOk w) xs es → (∀ x ∈ xs, ∃ k, kmix x.1 = some k ∧ x.2.1 = kV k) →
      ∃ ys, Paired MX xs ys ∧ Pairs (mixKind P w) es ys ∧ ∀ e ∈ es, ∃ k, (mixKind P w).is k e.key = true ∧ e.hash = (mixKind P w).hash k := by
    intro xs es hp
    induction hp with
    | nil => exact fun _ => ⟨[], .nil, .nil, fun _ q => nomatch q⟩
    | @cons a b l1 l2 r t ih =>
      intro hk
      obtain ⟨ys, h1, h2, h3⟩ := ih fun x hx => hk x (List.mem_cons_of_mem _ hx)
      obtain ⟨k, t1, t2⟩ := hk a List.mem_cons_self
      obtain ⟨q1, q2, q3⟩ := r
      have hi : (mixKind P w).is k b.key = true := kV_is (by rw [← t2]; exact q2)
      refine ⟨(k, b.val) :: ys, .cons ⟨t1, t2, q3⟩ h1, .cons hi rfl h2, fun e he => ?_⟩
      rcases List.mem_cons.mp he with q | q
      · subst q
        exact ⟨k, hi, q1.trans (keyH_hash t1).symm⟩
      · exact h3 e q
  obtain ⟨ys, h1, h2, h3⟩ := key hp hk
  exact ⟨ys, h1, o, es, ep, ho, hc, hd, (fun e he => h3 e (Array.mem_toList_iff.mpr he)), h2, (mx_nodup h1).mp hn⟩
theorem mix_dobj {h : Heap} {ys : List (Key × Value)} (hz : xs.length ≤ sizeLine) (hS : (d == sysModules) = false) (hp : Paired MX xs ys) (x : h.DictOf (mixKind P w) d ys) : DObj w d xs h := by
  obtain ⟨o, es, ep, ho, hc, hd, hk, he, hn⟩ := x
  refine ⟨hz, hS, (mx_nodup hp).mpr hn, o, es, ep, ho, hc, hd, ?_⟩
  have key : ∀ {xs : Xs} {ys : List (Key × Value)} {es : List DictEntry}, Paired MX xs ys → Pairs (mixKind P w) es ys → (∀ e ∈ es, ∃ k, (mixKind P w).is k e.key = true ∧ e.hash = (mixKind P w).hash k) → Paired (EntOk w) xs es := by
    intro xs ys es hp
    induction hp generalizing es with
    | nil =>
      intro h _
      cases h
      exact .nil
    | @cons a b l1 l2 r t ih =>
      intro h hk
      cases h with
      | @cons e _ es2 _ h1 h2 h3 =>
        obtain ⟨k, k1, k2⟩ := hk e List.mem_cons_self
        have hkb : k = b.1 := (mixKind P w).inj _ _ _ k1 h1
        subst hkb
        refine .cons ⟨k2.trans (keyH_hash r.1), ?_, ?_⟩ (ih h3 fun e he => hk e (List.mem_cons_of_mem _ he))
        · rw [r.2.1]
          rcases keyIs_shape (show keyIs b.1 e.key = true from h1) with ⟨i, t, e1, e2⟩ | ⟨i, t, e1, e2⟩
          · rw [e1, e2]; exact ⟨t, rfl⟩
          · rw [e1, e2]; exact ⟨t, rfl⟩
        · rw [h2]; exact r.2.2
  exact key hp he fun e he => hk e (Array.mem_toList_iff.mp he)
theorem tx_at {ys : List (NestedKey × Addr × Value)} (k : NestedKey) (h : Paired TX xs ys) : (at3 xs k = none ∧ atKey ys k = none) ∨ ∃ x y, at3 xs k = some x.2.2 ∧ atKey ys k = some y.2 ∧ TX x y ∧ x ∈ xs := by
  induction h with
  | nil => exact .inl ⟨rfl, rfl⟩
  | @cons x y l1 l2 r t ih =>
    by_cases h : x.1 = k
    · exact .inr ⟨x, y, by simp [at3, h], by simp [atKey, r.1.symm.trans h], r, List.mem_cons_self⟩
    · have h' : ¬ y.1 = k := fun e => h (r.1.trans e)
      rcases ih with ⟨a, b⟩ | ⟨u, z, a, b, c, d⟩
      · exact .inl ⟨by simpa [at3, h] using a, by simpa [atKey, h'] using b⟩
      · exact .inr ⟨u, z, by simpa [at3, h] using a, by simpa [atKey, h'] using b, c, List.mem_cons_of_mem _ d⟩
theorem mx_at {ys : List (Key × Value)} {k : NestedKey} {q : Key} (hq : kmix k = some q) (h : Paired MX xs ys) : (at3 xs k = none ∧ valueAt ys q = none) ∨ ∃ x y, at3 xs k = some x.2.2 ∧ valueAt ys q = some y.2 ∧ MX x y ∧ x ∈ xs := by
  induction h with
  | nil => exact .inl ⟨rfl, rfl⟩
  | @cons x y l1 l2 r t ih =>
    by_cases h : x.1 = k
    · exact .inr ⟨x, y, by simp [at3, h], by simp [valueAt, (kmix_iff r.1 hq).mp h], r, List.mem_cons_self⟩
    · have h' : ¬ y.1 = q := fun e => h ((kmix_iff r.1 hq).mpr e)
      rcases ih with ⟨a, b⟩ | ⟨u, z, a, b, c, d⟩
      · exact .inl ⟨by simpa [at3, h] using a, by simpa [valueAt, h'] using b⟩
      · exact .inr ⟨u, z, by simpa [at3, h] using a, by simpa [valueAt, h'] using b, c, List.mem_cons_of_mem _ d⟩
theorem at3_any {κ α β : Type} [DecidableEq κ] (xs : List (κ × α × β)) (k : κ) : (xs.any fun x => decide (x.1 = k)) = (at3 xs k).isSome := by
  induction xs with
  | nil => rfl
  | cons x xs ih =>
    by_cases h : x.1 = k
    · simp [at3, h]
    · simpa [at3, h] using ih
theorem paired_map {α β : Type} {R : α → β → Prop} (f : α → α) (g : β → β) (hfg : ∀ x y, R x y → R (f x) (g y)) {xs : List α} {ys : List β} (h : Paired R xs ys) : Paired R (xs.map f) (ys.map g) := by
  induction h with
  | nil => exact .nil
  | cons r t ih => exact .cons (hfg _ _ r) ih
theorem tx_put {ys : List (NestedKey × Addr × Value)} {k : NestedKey} {a : Addr} {vv : V} {v : Value} (h : Paired TX xs ys) (r : RelV vv v) : Paired TX (put3 xs k (.ref a) vv) (storedH ys k a v) := by
  have e : (xs.any fun x => decide (x.1 = k)) = (atKey ys k).isSome := by
    rw [at3_any]
    rcases tx_at k h with ⟨a, b⟩ | ⟨u, z, a, b, _⟩ <;> rw [a, b] <;> rfl
  unfold put3 storedH
  rw [e]
  split
  · refine paired_map _ _ (fun x y t => ?_) h
    unfold set3 putAt
    rw [← t.1]
    split
    · exact ⟨rfl, t.2.1, r⟩
    · exact t
  · exact h.snoc ⟨rfl, rfl, r⟩
theorem mx_put {ys : List (Key × Value)} {k : NestedKey} {q : Key} {vv : V} {v : Value} (hq : kmix k = some q) (h : Paired MX xs ys) (r : RelV vv v) : Paired MX (put3 xs k (kV q) vv) (stored ys q v) := by
  have e : (xs.any fun x => decide (x.1 = k)) = ys.any fun x => decide (x.1 = q) := by
    induction h with
    | nil => rfl
    | cons t _ ih => rw [List.any_cons, List.any_cons, ih, decide_eq_decide.mpr (kmix_iff t.1 hq)]
  unfold put3 stored
  rw [e]
  split
  · refine paired_map _ _ (fun x y t => ?_) h
    unfold set3
    by_cases hx : x.1 = k
    · rw [if_pos hx, if_pos ((kmix_iff t.1 hq).mp hx)]
      exact ⟨t.1, t.2.1, r⟩
    · rw [if_neg hx, if_neg (fun z => hx ((kmix_iff t.1 hq).mpr z))]
      exact t
  · exact h.snoc ⟨hq, rfl, r⟩
end

/-! ### the roads -/
section
variable {X : Cx} {S : Src} {G H : Hp} {s : Shared} {pins : List (Addr × Obj)} {σ : L2.St} {d : Addr} {xs : Xs} {k : NestedKey} {kv : V} {ku : Value}
def KF (K : PySem.W.Frag) (G : Hp) (xs : Xs) : Prop := ∀ x ∈ xs, Kp K G x.1 x.2.1
theorem Rpk.kf {K : PySem.W.Frag} {w : World} : ∀ {kvs : List (NestedKey × D)} {xs : Xs}, Rpk K w G kvs xs → KF K G xs
  | [], _, h => by
    simp only [Rpk] at h
    subst h
    exact fun _ q => nomatch q
  | (k, d) :: r, xs, h => by
    simp only [Rpk] at h
    obtain ⟨kv, vv, r', rfl, h0, _, h2⟩ := h
    intro x hx
    rcases List.mem_cons.mp hx with q | q
    · subst q
      exact h0
    · exact Rpk.kf h2 x q
theorem kOk_cases (h : kOk k (xs.map (·.1)) = true) : (ktup k = true ∧ ∀ x ∈ xs, ktup x.1 = true) ∨ ∃ q, kmix k = some q ∧ ∀ x ∈ xs, ∃ p, kmix x.1 = some p := by
  simp only [kOk, Bool.or_eq_true, Bool.and_eq_true, List.all_map, List.all_eq_true, Option.isSome_iff_exists] at h
  rcases h with h | h
  · exact .inl ⟨h.1, h.2⟩
  · obtain ⟨⟨q, hq⟩, h2⟩ := h
    exact .inr ⟨q, hq, fun x hx => Option.isSome_iff_exists.mp (h2 x hx)⟩
theorem ktup_is {h : Heap} (e : ktup k = true) (n : NestedIs h k ku) (r : RelV kv ku) (hk : Kp X.K G k kv) : ∃ a, ku = .ref a ∧ kv = .ref a ∧ (nestedKind X.prog X.w).is h k a := by
  obtain ⟨a, rfl⟩ := kp_tup e hk
  cases r
  cases k <;> simp only [ktup, Bool.false_eq_true, decide_eq_true_eq] at e
  exact ⟨a, rfl, rfl, n, e⟩
theorem to_tup (I : Inv X pins σ H s) (hg : Same G H) (x : DObj X.w d xs s.heap) (kf : KF X.K G xs) (ha : ∀ x ∈ xs, ktup x.1 = true) : ∃ ys, Paired TX xs ys ∧ s.heap.DictOfH (nestedKind X.prog X.w) d ys :=
  dobj_tup x fun y hy => ⟨ha y hy, kp_tup (ha y hy) (kf y hy), fun u r => kp_is I hg y.1 y.2.1 u (kf y hy) r⟩
theorem to_mix (x : DObj X.w d xs s.heap) (kf : KF X.K G xs) (ha : ∀ x ∈ xs, ∃ p, kmix x.1 = some p) : ∃ ys, Paired MX xs ys ∧ s.heap.DictOf (mixKind X.prog X.w) d ys :=
  dobj_mix x fun y hy => let ⟨p, hp⟩ := ha y hy; ⟨p, hp, kp_mix hp (kf y hy)⟩
theorem road_item {A : Around} {E : Value → Shared → Prop} (I : Inv X pins σ H s) (hu : A.units + 64 < cLine) (hg : Same G H) (x : DObj X.w d xs s.heap) (kf : KF X.K G xs) (hk : Kp X.K G k kv) (r : RelV kv ku) (ok : kOk k (xs.map (·.1)) = true) {vv : V} (hv : at3 xs k = some vv) {Q : Value → Shared → Prop}
    (h : ∀ v t, RelV vv v → Q v { s with toks := t }) : wpAny (model X.prog X.w) A (getItem (.ref d) ku) Q E s := by
  rcases kOk_cases ok with ⟨h1, h2⟩ | ⟨q, h1, h2⟩
  · obtain ⟨ys, hp, hD⟩ := to_tup I hg x kf h2
    obtain ⟨a, rfl, rfl, hi⟩ := ktup_is h1 (kp_is I hg k kv ku hk r) r hk
    rcases tx_at k hp with ⟨e, _⟩ | ⟨x, y, e1, e2, t, _⟩
    · rw [hv] at e; cases e
    · rw [hv] at e1
      cases e1
      exact wpAny_getItem_heap (show A.units + 1 + 8 < cLine by omega) hi hD e2 (h _ _ t.2.2)
  · obtain ⟨ys, hp, hD⟩ := to_mix x kf h2
    have hi : (mixKind X.prog X.w).is q ku = true := kV_is (by rw [← kp_mix h1 hk]; exact r)
    rcases mx_at h1 hp with ⟨e, _⟩ | ⟨x, y, e1, e2, t, _⟩
    · rw [hv] at e; cases e
    · rw [hv] at e1
      cases e1
      exact wpAny_getItem_of hi hD.mapOf e2 (h _ _ t.2.2)
theorem road_in {A : Around} {E : Value → Shared → Prop} (I : Inv X pins σ H s) (hu : A.units + 64 < cLine) (hg : Same G H) (x : DObj X.w d xs s.heap) (kf : KF X.K G xs) (hk : Kp X.K G k kv) (r : RelV kv ku) (ok : kOk k (xs.map (·.1)) = true) {Q : Value → Shared → Prop}
    (h : ∀ t, Q (.bool (at3 xs k).isSome) { s with toks := t }) : wpAny (model X.prog X.w) A (compareOp .In ku (.ref d)) Q E s := by
  have hS := x.2.1
  rcases kOk_cases ok with ⟨h1, h2⟩ | ⟨q, h1, h2⟩
  · obtain ⟨ys, hp, hD⟩ := to_tup I hg x kf h2
    obtain ⟨a, rfl, rfl, hi⟩ := ktup_is h1 (kp_is I hg k kv ku hk r) r hk
    refine wpAny_in_heap (show A.units + 1 + 8 < cLine by omega) hi hS hD ?_
    rcases tx_at k hp with ⟨e, e2⟩ | ⟨x, y, e1, e2, t, _⟩
    · rw [e2]; rw [e] at h; exact h _
    · rw [e2]; rw [e1] at h; exact h _
  · obtain ⟨ys, hp, hD⟩ := to_mix x kf h2
    have hi : (mixKind X.prog X.w).is q ku = true := kV_is (by rw [← kp_mix h1 hk]; exact r)
    refine wpAny_in_of hi hS hD.mapOf ?_
    rcases mx_at h1 hp with ⟨e, e2⟩ | ⟨x, y, e1, e2, t, _⟩
    · rw [e2]; rw [e] at h; exact h _
    · rw [e2]; rw [e1] at h; exact h _
theorem road_notIn {A : Around} {E : Value → Shared → Prop} (I : Inv X pins σ H s) (hu : A.units + 64 < cLine) (hg : Same G H) (x : DObj X.w d xs s.heap) (kf : KF X.K G xs) (hk : Kp X.K G k kv) (r : RelV kv ku) (ok : kOk k (xs.map (·.1)) = true) {Q : Value → Shared → Prop}
    (h : ∀ t, Q (.bool (!(at3 xs k).isSome)) { s with toks := t }) : wpAny (model X.prog X.w) A (compareOp .NotIn ku (.ref d)) Q E s := by
  have hS := x.2.1
  rcases kOk_cases ok with ⟨h1, h2⟩ | ⟨q, h1, h2⟩
  · obtain ⟨ys, hp, hD⟩ := to_tup I hg x kf h2
    obtain ⟨a, rfl, rfl, hi⟩ := ktup_is h1 (kp_is I hg k kv ku hk r) r hk
    refine wpAny_notIn_heap (show A.units + 1 + 8 < cLine by omega) hi hS hD ?_
    rcases tx_at k hp with ⟨e, e2⟩ | ⟨x, y, e1, e2, t, _⟩
    · rw [e2]; rw [e] at h; exact h _
    · rw [e2]; rw [e1] at h; exact h _
  · obtain ⟨ys, hp, hD⟩ := to_mix x kf h2
    have hi : (mixKind X.prog X.w).is q ku = true := kV_is (by rw [← kp_mix h1 hk]; exact r)
    refine wpAny_notIn_of hi hS hD.mapOf ?_
    rcases mx_at h1 hp with ⟨e, e2⟩ | ⟨x, y, e1, e2, t, _⟩
    · rw [e2]; rw [e] at h; exact h _
    · rw [e2]; rw [e1] at h; exact h _
theorem road_get {A : Around} {E : Value → Shared → Prop} (I : Inv X pins σ H s) (hu : A.units + 64 < cLine) (hg : Same G H) (x : DObj X.w d xs s.heap) (kf : KF X.K G xs) (hk : Kp X.K G k kv) (r : RelV kv ku) (ok : kOk k (xs.map (·.1)) = true) {dv : V} {du : Value} (rd : RelV dv du) {Q : Value → Shared → Prop}
    (h : ∀ v t, RelV ((at3 xs k).getD dv) v → Q v { s with toks := t }) : wpAny (model X.prog X.w) A (call (.builtin "dict.get") [.ref d, ku, du]) Q E s := by
  have hS := x.2.1
  rcases kOk_cases ok with ⟨h1, h2⟩ | ⟨q, h1, h2⟩
  · obtain ⟨ys, hp, hD⟩ := to_tup I hg x kf h2
    obtain ⟨a, rfl, rfl, hi⟩ := ktup_is h1 (kp_is I hg k kv ku hk r) r hk
    refine getOr_keyed (show A.units + 1 + 8 < cLine by omega) hi hS ⟨ys, hD, rfl⟩ ?_
    rw [valueAt_pairsH]
    rcases tx_at k hp with ⟨e, e2⟩ | ⟨x, y, e1, e2, t, _⟩
    · rw [e2]; rw [e] at h; exact h _ _ rd
    · rw [e2]; rw [e1] at h; exact h _ _ t.2.2
  · obtain ⟨ys, hp, hD⟩ := to_mix x kf h2
    have hi : (mixKind X.prog X.w).is q ku = true := kV_is (by rw [← kp_mix h1 hk]; exact r)
    refine call_meetsIn F.slot_dict_get hD.typeIs F.entry_dict_get (F.args_dict_get_3 _ _ _) (meets_dict_get_default (mixKind X.prog X.w) d hi hS du) ⟨_, hD.mapOf, ?_⟩
    rcases mx_at h1 hp with ⟨e, e2⟩ | ⟨x, y, e1, e2, t, _⟩
    · rw [e2]; rw [e] at h; exact h _ _ rd
    · rw [e2]; rw [e1] at h; exact h _ _ t.2.2
/-- d[k] = v -/
theorem road_set {A : Around} {E : Value → Shared → Prop} (I : Inv X pins σ H s) (hu : A.units + 64 < cLine) (hg : Same G H) (hd : H d = some (DO X.w d xs)) (kf : KF X.K G xs) (hk : Kp X.K G k kv) (r : RelV kv ku) (ok : kOk k (xs.map (·.1)) = true) {vv : V} {u : Value} (rv : RelV vv u) (hz : (put3 xs k kv vv).length ≤ sizeLine) {Q : Unit → Shared → Prop}
    (h : ∀ s', Inv X pins σ (upd H d (DO X.w d (put3 xs k kv vv))) s' → Q () s') : wpAny (model X.prog X.w) A (setItem (.ref d) ku u) Q E s := by
  obtain ⟨x, _, st⟩ := I.hok d _ hd
  have hz0 : xs.length ≤ sizeLine := x.1
  have hS := x.2.1
  have fin : ∀ h' t, DObj X.w d (put3 xs k kv vv) h' → Heap.SameBut d s.heap h' → Inv X pins σ (upd H d (DO X.w d (put3 xs k kv vv))) { s with heap := h', toks := t } := fun h' t x' sb => by
    have eo : ∃ o, h'.get? d = some o := by
      obtain ⟨_, _, _, o, _, _, e, _⟩ := x'
      exact ⟨o, e⟩
    refine I.write (x := d) (e := d) (by rw [hd]; trivial) (.inl rfl) (fun b o hb e => (sb.2 b hb).trans e) eo ?_
    refine ⟨x', eo, fun h1 h2 y hk => ?_⟩
    obtain ⟨z1, z2, z3, o, es, ep, e, c⟩ := y
    exact ⟨z1, z2, z3, o, es, ep, hk _ e, c⟩
  rcases kOk_cases ok with ⟨h1, h2⟩ | ⟨q, h1, h2⟩
  · obtain ⟨ys, hp, hD⟩ := to_tup I hg x kf h2
    obtain ⟨a, rfl, rfl, hi⟩ := ktup_is h1 (kp_is I hg k kv ku hk r) r hk
    refine wpAny_setItem_heap (hsz := by rw [← hp.length]; exact hz0) (show A.units + 1 + 8 < cLine by omega) hi hD fun h' hD' sb => h _ (fin h' _ (tup_dobj hz hS (tx_put hp rv) hD') sb)
  · obtain ⟨ys, hp, hD⟩ := to_mix x kf h2
    have e := kp_mix h1 hk
    subst e
    have hi : (mixKind X.prog X.w).is q ku = true := kV_is r
    refine wpAny_setItem_pairs (hsz := by rw [← hp.length]; exact hz0) hi hD fun h' hD' sb => h _ (fin h' _ (mix_dobj hz hS (mx_put h1 hp rv) hD') sb)
end
end PL

/-! PL11: subscripts, slices, built-ins, methods that read -/
namespace PL
open PySem PySem.Spec PyProof.Rows L2
section
variable {X : Cx} {S : Src} {G H : Hp} {s : Shared} {pins : List (Addr × Obj)} {σ : L2.St}
theorem Rpk.keys {K : PySem.W.Frag} {w : World} : ∀ {kvs : List (NestedKey × D)} {xs : Xs}, Rpk K w G kvs xs → xs.map (·.1) = kvs.map (·.1)
  | [], _, h => by
    simp only [Rpk] at h
    subst h
    rfl
  | (k, d) :: r, xs, h => by
    simp only [Rpk] at h
    obtain ⟨kv, vv, r', rfl, _, _, h2⟩ := h
    rw [List.map_cons, List.map_cons, Rpk.keys h2]
theorem Rpk.at3 {K : PySem.W.Frag} {w : World} (k : NestedKey) : ∀ {kvs : List (NestedKey × D)} {xs : Xs}, Rpk K w G kvs xs → (at2 kvs k = none ∧ PL.at3 xs k = none) ∨ ∃ d vv, at2 kvs k = some d ∧ PL.at3 xs k = some vv ∧ Rp K w G d vv
  | [], _, h => by
    simp only [Rpk] at h
    subst h
    exact .inl ⟨rfl, rfl⟩
  | (k', d) :: r, xs, h => by
    simp only [Rpk] at h
    obtain ⟨kv, vv, r', rfl, _, h1, h2⟩ := h
    by_cases e : k' = k
    · exact .inr ⟨d, vv, by simp [at2, e], by simp [PL.at3, e], h1⟩
    · rcases Rpk.at3 k h2 with ⟨a, b⟩ | ⟨d', v', a, b, c⟩
      · exact .inl ⟨by simpa [at2, e] using a, by simpa [PL.at3, e] using b⟩
      · exact .inr ⟨d', v', by simpa [at2, e] using a, by simpa [PL.at3, e] using b, c⟩
theorem put_new {κ α β : Type} [DecidableEq κ] {xs : List (κ × α × β)} {k : κ} (h : k ∉ xs.map (·.1)) (a : α) (v : β) : put3 xs k a v = xs ++ [(k, a, v)] := by
  unfold put3
  rw [if_neg]
  rw [List.any_eq_true]
  rintro ⟨y, hy, e⟩
  exact h (List.mem_map.mpr ⟨y, hy, of_decide_eq_true e⟩)
theorem put2_len {κ β : Type} [DecidableEq κ] (xs : List (κ × β)) (k : κ) (v : β) : (put2 xs k v).length = if (xs.any fun x => decide (x.1 = k)) = true then xs.length else xs.length + 1 := by
  unfold put2
  split <;> simp
theorem Rpk.put {K : PySem.W.Frag} {w : World} {k : NestedKey} {kv : V} {d : D} {vv : V} (hk : Kp K G k kv) (hd : Rp K w G d vv) {kvs : List (NestedKey × D)} {xs : Xs} (h : Rpk K w G kvs xs) : Rpk K w G (put2 kvs k d) (put3 xs k kv vv) := by
  have e : (xs.any fun x => decide (x.1 = k)) = kvs.any fun x => decide (x.1 = k) := by
    have := h.keys
    have e1 : (xs.any fun x => decide (x.1 = k)) = (xs.map (·.1)).any fun x => decide (x = k) := by rw [List.any_map]; rfl
    have e2 : (kvs.any fun x => decide (x.1 = k)) = (kvs.map (·.1)).any fun x => decide (x = k) := by rw [List.any_map]; rfl
    rw [e1, e2, this]
  unfold put2 put3
  rw [e]
  split
  · clear e
    rename_i hh
    clear hh
    have key : ∀ (kvs : List (NestedKey × D)) (xs : Xs), Rpk K w G kvs xs → Rpk K w G (kvs.map fun x => if x.1 = k then (x.1, d) else x) (xs.map (set3 k vv)) := by
      intro kvs
      induction kvs with
      | nil =>
        intro xs h
        simp only [Rpk] at h
        subst h
        simp [Rpk]
      | cons y r ih =>
        intro xs h
        obtain ⟨k', d'⟩ := y
        simp only [Rpk] at h
        obtain ⟨kv', vv', r', rfl, h0, h1, h2⟩ := h
        by_cases e : k' = k
        · simp only [List.map_cons, e, set3, if_true, Rpk]
          exact ⟨kv', vv, _, rfl, by rw [← e]; exact h0, hd, ih _ h2⟩
        · simp only [List.map_cons, e, set3, if_false, Rpk]
          exact ⟨kv', vv', _, rfl, h0, h1, ih _ h2⟩
    exact key _ _ h
  · have key : ∀ (kvs : List (NestedKey × D)) (xs : Xs), Rpk K w G kvs xs → Rpk K w G (kvs ++ [(k, d)]) (xs ++ [(k, kv, vv)]) := by
      intro kvs
      induction kvs with
      | nil =>
        intro xs h
        simp only [Rpk] at h
        subst h
        simp only [List.nil_append, Rpk]
        exact ⟨kv, vv, [], rfl, hk, hd, rfl⟩
      | cons y r ih =>
        intro xs h
        obtain ⟨k', d'⟩ := y
        simp only [Rpk] at h
        obtain ⟨kv', vv', r', rfl, h0, h1, h2⟩ := h
        simp only [List.cons_append, Rpk]
        exact ⟨kv', vv', _, rfl, h0, h1, ih _ h2⟩
    exact key _ _ h
/-- a dict that is read -/
theorem Rr.dct {kvs : List (NestedKey × D)} {v : V} (I : Inv X pins σ H s) (wf : Same G H) (h : Rr X.K X.w S G H (.dct kvs) v) : ∃ a xs, v = .ref a ∧ DObj X.w a xs s.heap ∧ Rpk X.K X.w G kvs xs := by
  rcases h with h | ⟨a, e, _, _, xs, h1, h2⟩
  · simp only [Rp] at h
    obtain ⟨a, od, xs, e, h1, h2⟩ := h
    obtain ⟨_, x, _⟩ := I.hok a _ (wf _ _ h1)
    exact ⟨a, xs, e, x, h2⟩
  · obtain ⟨x, _⟩ := I.hok a _ h1
    exact ⟨a, xs, e, x, h2⟩

/-! ### d[i] -/
def gIx : D → D → Option D
  | .lst xs, .int i => atI xs i
  | .tup xs, .int i => atI xs i
  | .dct kvs, k => (D.key k).bind fun k => if kOk k (kvs.map (·.1)) = true then at2 kvs k else none
  | _, _ => none
theorem rr_key {d : D} {k : NestedKey} {v : V} (e : D.key d = some k) (h : Rr X.K X.w S G H d v) : Kp X.K G k v := by
  rcases h with h | ⟨a, _, _, _, h⟩
  · exact Rp.kp d k v e h
  · cases d with
    | lst _ => simp [D.key] at e
    | dct _ => simp [D.key] at e
    | _ => exact h.elim
theorem Rps.atI {K : PySem.W.Frag} {w : World} {ds : List D} {vs : List V} {i : Int} {d : D} (h : Rps K w G ds vs) (e : L2.atI ds i = some d) : ∃ v, L2.atI vs i = some v ∧ Rp K w G d v := by
  simp only [L2.atI, Option.bind_eq_some_iff] at e ⊢
  obtain ⟨j, h1, h2⟩ := e
  obtain ⟨v, h3, r⟩ := h.get h2
  exact ⟨v, ⟨j, by rw [h.length]; exact h1, h3⟩, r⟩
def ixS (X : Cx) (S : Src) : R2 := fun x y H Q => ∃ G d e r, Wf S G H ∧ Rr X.K X.w S G H d x ∧ Rr X.K X.w S G H e y ∧ gIx d e = some r ∧ ∀ v, Rp X.K X.w G r v → Q v H
theorem ix_all (hu : X.A.units + 70 < cLine) : IxR X (ixS X S) := by
  intro value slice pins s σ H x y v u Q I rx ry h hs
  obtain ⟨G, d, e, r, wf, r1, r2, hg, q⟩ := h
  cases d with
  | lst xs =>
    cases e <;> simp only [gIx, reduceCtorEq] at hg
    obtain ⟨a, vs, rfl, h1, h2⟩ := r1.lst wf.gh
    obtain ⟨z, h3, r3⟩ := h2.atI hg
    exact ix_seq value slice pins s σ H _ y v u Q I rx ry (.inl ⟨a, vs, _, z, rfl, r2.int, SqL.of h1, h3, q z r3⟩) hs
  | tup xs =>
    cases e <;> simp only [gIx, reduceCtorEq] at hg
    obtain ⟨a, vs, rfl, _, h1, h2⟩ := r1.tup wf.gh
    obtain ⟨z, h3, r3⟩ := h2.atI hg
    exact ix_seq value slice pins s σ H _ y v u Q I rx ry (.inr (.inl ⟨a, vs, _, z, rfl, r2.int, h1, h3, q z r3⟩)) hs
  | dct kvs =>
    simp only [gIx, Option.bind_eq_some_iff] at hg
    obtain ⟨k, hk, hg⟩ := hg
    split at hg
    · rename_i ok
      obtain ⟨a, xs, rfl, hd, h2⟩ := r1.dct I wf.gh
      cases rx
      rcases h2.at3 k with ⟨z, _⟩ | ⟨d', vv, z, z2, r3⟩
      · rw [hg] at z; cases z
      · rw [hg] at z
        cases z
        have ty : s.TypeIs (.ref a) "dict" := by
          obtain ⟨_, _, _, o, _, _, ho, hc, _⟩ := hd
          exact ⟨o, ho, hc.1⟩
        exact tail_any ty slot_dict_getitem.lookup (road_item I (by omega) wf.gh hd h2.kf (rr_key hk r2) ry (by rw [h2.keys]; exact ok) z2 fun w' t rv => ⟨vv, H, I.tok t, rv, q vv r3⟩) hs
    · cases hg
  | _ => simp [gIx] at hg
theorem x_ix {a b : Expr} {pos : Pos} {ma mb : Rho → M D} (hu : X.A.units + 70 < cLine) (ha : PEr X S a ma) (hb : PEr X S b mb) (hs : PlainIx b := by exact fun _ _ => rfl) : PEm X S (.Subscript a b pos) (mOp gIx ma mb) :=
  (pe_ix (ix_all (S := S) hu) ha hb hs).imp fun σ H Q ⟨G0, H0, G, ρ, st, q⟩ => by
    refine ⟨G0, H0, G, ρ, st, wp_mono (wp_bind.mp q) fun d q1 v1 G1 H1 e1 r1 => ?_⟩
    refine ⟨G0, H0, G1, ρ, st.step e1, wp_mono (wp_bind.mp q1) fun e q2 v2 G2 H2 e2 r2 => ?_⟩
    obtain ⟨r, hr, k⟩ := wp_opt.mp q2
    have r1' : Rr X.K X.w S G1 H1 d v1 := r1
    exact ⟨G2, d, e, r, e2.wf, r1'.ext e2, r2, hr, fun v rv => k v G2 H2 (e1.trans st.wf.src e2) rv⟩

/-! ### slices -/
def mNoP : Rho → M (Option Int) := fun _ => .ret none
def mP (m : Rho → M D) : Rho → M (Option Int) := fun ρ => (m ρ).bind fun d => match d with
  | .int i => .ret (some i)
  | _ => .fail
def tP (K : PySem.W.Frag) (w : World) (S : Src) (m : Rho → M (Option Int)) : TO := fun σ H Q => ∃ G0 H0 G ρ, Stk K w S G0 H0 G ρ σ H ∧ wp (m ρ) fun o => ∀ G' H', Ext S G H G' H' → Q o H'
abbrev POm (X : Cx) (S : Src) (e : Option Expr) (m : Rho → M (Option Int)) : Prop := PO X e (tP X.K X.w S m)
theorem _root_.L2.PO.imp {e : Option Expr} {t t' : TO} (h : PO X e t) (i : ∀ σ H Q, t' σ H Q → t σ H Q) : PO X e t' := ⟨fun pins s σ H Q I q => h.run pins s σ H Q I (i _ _ _ q)⟩
theorem o_none : POm X S none mNoP := po_none.imp fun σ H Q ⟨G0, H0, G, ρ, st, q⟩ => q G H (Ext.refl st.wf)
theorem o_some {e : Expr} {m : Rho → M D} (h : PEm X S e m) : POm X S (some e) (mP m) := (po_some h).imp fun σ H Q ⟨G0, H0, G, ρ, st, q⟩ => ⟨G0, H0, G, ρ, st, wp_mono (wp_bind.mp q) fun d q1 v G1 H1 e1 r1 => by
  cases d with
  | int i =>
    have r1' : Rp X.K X.w G1 (.int i) v := r1
    simp only [Rp] at r1'
    exact ⟨i, r1', q1 G1 H1 e1⟩
  | _ => exact q1.elim⟩
def cutD (xs : List D) (lo hi : Option Int) : List D := (xs.drop (HT.sIx xs.length 0 lo)).take (HT.sIx xs.length xs.length hi - HT.sIx xs.length 0 lo)
theorem Rps.cut {K : PySem.W.Frag} {w : World} {ds : List D} {vs : List V} (h : Rps K w G ds vs) (lo hi : Option Int) : Rps K w G (cutD ds lo hi) (cutV vs lo hi) := by
  unfold cutD cutV
  rw [h.length]
  exact (h.drop _).take _
def gSl : D → Option Int → Option Int → Option D
  | .tup xs, lo, hi => some (.tup (cutD xs lo hi))
  | .lst xs, lo, hi => some (.lst (cutD xs lo hi))
  | _, _, _ => none
def gSlF : D → Option Int → Option Int → Option D
  | .lst xs, lo, hi => some (.lst (cutD xs lo hi))
  | _, _, _ => none
def mSl (g : D → Option Int → Option Int → Option D) (m : Rho → M D) (l h : Rho → M (Option Int)) : Rho → M D := fun ρ => (m ρ).bind fun d => (l ρ).bind fun lo => (h ρ).bind fun hi => .opt (g d lo hi)
theorem x_sl {e : Expr} {lo hi : Option Expr} {pos p2 : Pos} {m : Rho → M D} {l h : Rho → M (Option Int)} (he : PEr X S e m) (hl : POm X S lo l) (hh : POm X S hi h) : PEm X S (.Subscript e (.Slice lo hi none p2) pos) (mSl gSl m l h) :=
  (pe_slice ((sl_tupA (X := X)).or sl_list) he hl hh).imp fun σ H Q ⟨G0, H0, G, ρ, st, q⟩ => by
    refine ⟨G0, H0, G, ρ, st, wp_mono (wp_bind.mp q) fun d q1 v1 G1 H1 e1 r1 => ?_⟩
    refine ⟨G0, H0, G1, ρ, st.step e1, wp_mono (wp_bind.mp q1) fun lo q2 G2 H2 e2 => ?_⟩
    have e12 := e1.trans st.wf.src e2
    refine ⟨G0, H0, G2, ρ, st.step e12, wp_mono (wp_bind.mp q2) fun hi q3 G3 H3 e3 => ?_⟩
    have e13 := e12.trans st.wf.src e3
    have r1' : Rr X.K X.w S G1 H1 d v1 := r1
    have r3 : Rr X.K X.w S G3 H3 d v1 := r1'.ext (e2.trans e1.wf.src e3)
    obtain ⟨r, hr, k⟩ := wp_opt.mp q3
    cases d <;> simp only [gSl, Option.some.injEq, reduceCtorEq] at hr
    · subst hr
      rename_i ys
      obtain ⟨a, vs, rfl, hg, h1, h2⟩ := r3.tup e3.wf.gh
      refine .inl ⟨a, vs, rfl, h1, fun hw => ?_, fun _ p hp => ?_⟩
      · refine k _ G3 H3 e13 ?_
        have hlen := h2.length
        show Rp _ _ _ _ _
        simp only [Rp]
        refine ⟨a, vs, rfl, hg, ?_⟩
        have e0 : cutD ys lo hi = ys := by
          unfold cutD
          rw [hlen] at hw
          rw [hw.1, hw.2, List.drop_zero, Nat.sub_zero, List.take_length]
        rw [e0]
        exact h2
      · exact k _ _ _ (e13.trans st.wf.src (Ext.lay e3.wf hp)) (res_tup (e3.wf.gh.free hp) (h2.cut lo hi))
    · subst hr
      obtain ⟨a, vs, rfl, h1, h2⟩ := r3.lst e3.wf.gh
      exact .inr ⟨a, vs, rfl, SqL.of h1, fun p hp => k _ _ _ (e13.trans st.wf.src (Ext.lay e3.wf hp)) (res_lst (e3.wf.gh.free hp) (h2.cut lo hi))⟩
theorem f_sl {e : Expr} {lo hi : Option Expr} {pos p2 : Pos} {m : Rho → M D} {l h : Rho → M (Option Int)} (he : PEr X S e m) (hl : POm X S lo l) (hh : POm X S hi h) : PEf X S (.Subscript e (.Slice lo hi none p2) pos) (mSl gSlF m l h) :=
  (pe_slice (sl_list (X := X)) he hl hh).imp fun σ H Q ⟨G0, H0, G, ρ, st, q⟩ => by
    refine ⟨G0, H0, G, ρ, st, wp_mono (wp_bind.mp q) fun d q1 v1 G1 H1 e1 r1 => ?_⟩
    refine ⟨G0, H0, G1, ρ, st.step e1, wp_mono (wp_bind.mp q1) fun lo q2 G2 H2 e2 => ?_⟩
    have e12 := e1.trans st.wf.src e2
    refine ⟨G0, H0, G2, ρ, st.step e12, wp_mono (wp_bind.mp q2) fun hi q3 G3 H3 e3 => ?_⟩
    have e13 := e12.trans st.wf.src e3
    have r1' : Rr X.K X.w S G1 H1 d v1 := r1
    have r3 : Rr X.K X.w S G3 H3 d v1 := r1'.ext (e2.trans e1.wf.src e3)
    obtain ⟨r, hr, k⟩ := wp_opt.mp q3
    cases d <;> simp only [gSlF, Option.some.injEq, reduceCtorEq] at hr
    subst hr
    obtain ⟨a, vs, rfl, h1, h2⟩ := r3.lst e3.wf.gh
    exact ⟨a, vs, rfl, SqL.of h1, fun p hp => k _ _ _ (e13.trans st.wf.src (Ext.own e3.wf hp)) ((show Res X.K X.w S H3 .fresh _ _ G3 (upd H3 p (.lst (cutV vs lo hi))) from ⟨p, rfl, hp, own_lst (e3.wf.gh.free hp) (h2.cut lo hi)⟩).pull st.wf.src e13)⟩
end
end PL

/-! PL12: built-ins -/
namespace PL
open PySem PySem.Spec PyProof.Rows L2
section
variable {X : Cx} {S : Src} {G H : Hp} {s : Shared} {pins : List (Addr × Obj)} {σ : L2.St}
theorem CallS.of {f : Value} {md : Mode} {g : List D → Option D} {r : List V → Hp → VK → Prop} (ho : CallR X f r)
    (h : ∀ G H xs ds z Q, Wf S G H → Rrs X.K X.w S G H ds xs → g ds = some z → (∀ v G' H', Ext S G H G' H' → Res X.K X.w S H md z v G' H' → Q v H') → r xs H Q) : CallS X S f md g := by
  intro pins s σ H xs us Q I r hw
  obtain ⟨G, ds, z, wf, rr, hz, k⟩ := hw
  exact ho pins s σ H xs us Q I r (h G H xs ds z Q wf rr hz k)
theorem Rrs.one {K : PySem.W.Frag} {w : World} {d : D} {xs : List V} (h : Rrs K w S G H [d] xs) : ∃ v, xs = [v] ∧ Rr K w S G H d v := by
  obtain ⟨v, r, e, h1, h2⟩ := h
  cases h2
  exact ⟨v, e, h1⟩
theorem Rrs.two {K : PySem.W.Frag} {w : World} {d e : D} {xs : List V} (h : Rrs K w S G H [d, e] xs) : ∃ v u, xs = [v, u] ∧ Rr K w S G H d v ∧ Rr K w S G H e u := by
  obtain ⟨v, r, e, h1, h2⟩ := h
  obtain ⟨u, rfl, h3⟩ := h2.one
  exact ⟨v, u, e, h1, h3⟩
/-- the ints of data -/
def intsD : List D → Option (List Int)
  | [] => some []
  | .int i :: r => (intsD r).map (i :: ·)
  | _ :: _ => none
theorem intsD_eq : ∀ {xs : List D} {ns : List Int}, intsD xs = some ns → xs = ns.map D.int
  | [], ns, h => by
    simp only [intsD, Option.some.injEq] at h
    subst h
    rfl
  | d :: r, ns, h => by
    cases d <;> simp only [intsD, Option.map_eq_some_iff, reduceCtorEq] at h
    obtain ⟨ms, h1, rfl⟩ := h
    rw [intsD_eq h1]
    rfl
theorem intsD_map (ns : List Int) : intsD (ns.map D.int) = some ns := by
  induction ns with
  | nil => rfl
  | cons n ns ih => simp [intsD, ih]
theorem Rps.ints {K : PySem.W.Frag} {w : World} : ∀ {ns : List Int} {vs : List V}, Rps K w G (ns.map D.int) vs → vs = ns.map V.int
  | [], vs, h => by
    simp only [List.map_nil, Rps] at h
    exact h
  | n :: ns, vs, h => by
    simp only [List.map_cons, Rps, Rp] at h
    obtain ⟨v, r, rfl, rfl, h2⟩ := h
    rw [Rps.ints h2]
    rfl
def blsD : List D → Option (List Bool)
  | [] => some []
  | .bl i :: r => (blsD r).map (i :: ·)
  | _ :: _ => none
theorem blsD_eq : ∀ {xs : List D} {ns : List Bool}, blsD xs = some ns → xs = ns.map D.bl
  | [], ns, h => by
    simp only [blsD, Option.some.injEq] at h
    subst h
    rfl
  | d :: r, ns, h => by
    cases d <;> simp only [blsD, Option.map_eq_some_iff, reduceCtorEq] at h
    obtain ⟨ms, h1, rfl⟩ := h
    rw [blsD_eq h1]
    rfl
theorem blsD_map (ns : List Bool) : blsD (ns.map D.bl) = some ns := by
  induction ns with
  | nil => rfl
  | cons n ns ih => simp [blsD, ih]
theorem Rps.bls {K : PySem.W.Frag} {w : World} : ∀ {ns : List Bool} {vs : List V}, Rps K w G (ns.map D.bl) vs → vs = ns.map V.bl
  | [], vs, h => by
    simp only [List.map_nil, Rps] at h
    exact h
  | n :: ns, vs, h => by
    simp only [List.map_cons, Rps, Rp] at h
    obtain ⟨v, r, rfl, rfl, h2⟩ := h
    rw [Rps.bls h2]
    rfl
/-! ### len -/
def gLen : List D → Option D
  | [.lst xs] => some (.int xs.length)
  | [.tup xs] => some (.int xs.length)
  | [.dct xs] => some (.int xs.length)
  | _ => none
theorem meets_len_raw {P : Program} {w : World} {A : Around} {E : Value → Shared → Prop} {s : Shared} {d : Addr} {es : Array DictEntry} {ep : Nat} {Q : Value → Shared → Prop} (hd : (d == sysModules) = false) (hm : s.heap.DictRaw d es ep) (hT : s.TypeIs (.ref d) "dict") (hfit : (es.size : Int) < 2 ^ 63)
    (h : ∀ t u, Q (.int es.size t) { s with toks := u }) : wpAny (model P w) A (call (.builtin "len") [.ref d]) Q E s := by
  refine Calls.call_function_entry kind_len plain_len entry_len (args_len1 _) ?_
  unfold Builtin.«len»
  refine wpAny_bind (m := oneArg "len" _) (wpAny_pure ?_)
  refine wpAny_bind (m := callSpecial? (.ref d) (Str.ofString "__len__")) (wpAny_callSpecial?_slot (name := Str.ofString "__len__") hT F.slot_dict_len (call_len_raw hd hm ?_))
  show wpAny _ _ _ _ _ { s with toks := s.toks + 1 }
  refine wpAny_bind (wpAny_holding (wpAny_pure ?_))
  refine wpAny_bind (wpAny_letGo ?_)
  show wpAny _ _ (if (es.size : Int) < 0 then _ else _) _ _ _
  rw [if_neg (by omega)]
  show wpAny _ _ (if (es.size : Int) ≥ 2 ^ 63 then _ else _) _ _ _
  rw [if_neg (by omega)]
  exact wpAny_bind (wpAny_mkInt (wpAny_pure ⟨_, rfl, h _ _⟩))
theorem c_len : CallS X S (.builtin "len") .val gLen := by
  intro pins s σ H xs us Q I r hw
  obtain ⟨G, ds, z, wf, rr, hz, k⟩ := hw
  match ds, hz with
  | [.lst ys], hz =>
    cases hz
    obtain ⟨v, rfl, r1⟩ := rr.one
    obtain ⟨a, vs, rfl, h1, h2⟩ := r1.lst wf.gh
    exact call_len_seq pins s σ H _ us Q I r ⟨a, vs, rfl, .inl (SqL.of h1), by rw [h2.length]; exact k _ G H (Ext.refl wf) res_int⟩
  | [.tup ys], hz =>
    cases hz
    obtain ⟨v, rfl, r1⟩ := rr.one
    obtain ⟨a, vs, rfl, _, h1, h2⟩ := r1.tup wf.gh
    exact call_len_seq pins s σ H _ us Q I r ⟨a, vs, rfl, .inr h1, by rw [h2.length]; exact k _ G H (Ext.refl wf) res_int⟩
  | [.dct ys], hz =>
    cases hz
    obtain ⟨v, rfl, r1⟩ := rr.one
    obtain ⟨a, vs, rfl, h1, h2⟩ := r1.dct I wf.gh
    rw [Vals.ref1 r]
    obtain ⟨hz, hS, _, o, es, ep, ho, hc, hd, hp⟩ := h1
    have e1 : vs.length = es.size := by rw [hp.length, Array.length_toList]
    have e2 : vs.length = ys.length := by
      have := congrArg List.length h2.keys
      simpa using this
    have hl := line63
    refine meets_len_raw hS ⟨o, ho, hc, hd⟩ ⟨o, ho, hc.1⟩ (by rw [← e1]; omega) fun t u => ⟨.int es.size, H, I.tok u, ⟨_, rfl⟩, ?_⟩
    rw [← e1, e2]
    exact k _ G H (Ext.refl wf) res_int
/-! ### sum, abs, min, max, int -/
def gSum : List D → Option D
  | [.lst xs] => (intsD xs).map fun ns => .int ns.sum
  | [.tup xs] => (intsD xs).map fun ns => .int ns.sum
  | _ => none
theorem sum_tup {P : Program} {w : World} {A : Around} {E : Value → Shared → Prop} {s : Shared} {l : Addr} {its : List Value} {ns : List Int} {Q : Value → Shared → Prop} (hh : A.handled = none) (hl : s.heap.IsTuple l its.toArray) (hi : IntsAre its ns)
    (h : ∀ h' tk t', (∀ b o, s.heap.get? b = some o → h'.get? b = some o) → Q (.int ns.sum t') { s with heap := h', toks := tk }) : wpAny (model P w) A (call (.builtin "sum") [.ref l]) Q E s := by
  obtain ⟨xs, e⟩ := hi.allInts.items
  have hn : numsOf (intItems xs).toList = ns := by rw [← e]; exact hi.numsOf
  rw [nums_intItems] at hn
  rw [e] at hl
  refine PySem.W.ktm_sumG hh hl fun h' tk t' hk => ?_
  have := h h' tk t' hk
  rw [preSum_eq, List.take_of_length_le (by simp), hn]
  exact this
theorem c_sum (hc : X.calm = true) : CallS X S (.builtin "sum") .val gSum := by
  intro pins s σ H xs us Q I r hw
  obtain ⟨G, ds, z, wf, rr, hz, k⟩ := hw
  match ds, hz with
  | [.lst ys], hz =>
    simp only [gSum, Option.map_eq_some_iff] at hz
    obtain ⟨ns, h0, rfl⟩ := hz
    have := intsD_eq h0
    subst this
    obtain ⟨v, rfl, r1⟩ := rr.one
    obtain ⟨a, vs, rfl, h1, h2⟩ := r1.lst wf.gh
    rw [h2.ints] at h1
    exact cr_sum hc pins s σ H _ us Q I r ⟨a, ns, rfl, SqL.of h1, k _ G H (Ext.refl wf) res_int⟩
  | [.tup ys], hz =>
    simp only [gSum, Option.map_eq_some_iff] at hz
    obtain ⟨ns, h0, rfl⟩ := hz
    have := intsD_eq h0
    subst this
    obtain ⟨v, rfl, r1⟩ := rr.one
    obtain ⟨a, vs, rfl, _, h1, h2⟩ := r1.tup wf.gh
    rw [h2.ints] at h1
    obtain ⟨its, rv, ht, _⟩ := I.tuple h1
    rw [Vals.ref1 r]
    exact sum_tup (I.ok.hd hc) ht rv.ints fun h' tk t' hk => ⟨.int _, H, I.kept hk, ⟨_, rfl⟩, k _ G H (Ext.refl wf) res_int⟩
def gAbs : List D → Option D
  | [.int i] => some (.int (if i < 0 then -i else i))
  | _ => none
theorem c_abs : CallS X S (.builtin "abs") .val gAbs := CallS.of call_abs fun G H xs ds z Q wf rr hz k => by
  match ds, hz with
  | [.int i], hz =>
    cases hz
    obtain ⟨v, rfl, r1⟩ := rr.one
    exact ⟨i, by rw [r1.int], k _ G H (Ext.refl wf) res_int⟩
def gMin2 : List D → Option D
  | [.int i, .int j] => some (.int (if j < i then j else i))
  | _ => none
theorem c_min2 (hc : X.calm = true) : CallS X S (.builtin "min") .val gMin2 := CallS.of (call_min2 hc) fun G H xs ds z Q wf rr hz k => by
  match ds, hz with
  | [.int i, .int j], hz =>
    cases hz
    obtain ⟨v, u, rfl, r1, r2⟩ := rr.two
    exact ⟨i, j, by rw [r1.int, r2.int], k _ G H (Ext.refl wf) res_int⟩
def gMax2 : List D → Option D
  | [.int i, .int j] => some (.int (if j > i then j else i))
  | _ => none
theorem c_max2 (hc : X.calm = true) : CallS X S (.builtin "max") .val gMax2 := CallS.of (call_max2 hc) fun G H xs ds z Q wf rr hz k => by
  match ds, hz with
  | [.int i, .int j], hz =>
    cases hz
    obtain ⟨v, u, rfl, r1, r2⟩ := rr.two
    exact ⟨i, j, by rw [r1.int, r2.int], k _ G H (Ext.refl wf) res_int⟩
def gInt : List D → Option D
  | [.int i] => some (.int i)
  | [.bl b] => some (.int (if b then 1 else 0))
  | _ => none
theorem c_int : CallS X S (.type "int") .val gInt := CallS.of call_int1 fun G H xs ds z Q wf rr hz k => by
  match ds, hz with
  | [.int i], hz =>
    cases hz
    obtain ⟨v, rfl, r1⟩ := rr.one
    exact .inl ⟨i, by rw [r1.int], k _ G H (Ext.refl wf) res_int⟩
  | [.bl i], hz =>
    cases hz
    obtain ⟨v, rfl, r1⟩ := rr.one
    exact .inr ⟨i, by rw [r1.bl], k _ G H (Ext.refl wf) res_int⟩
/-- any, all of a list of bools -/
def gAny : List D → Option D
  | [.lst xs] => (blsD xs).map fun ns => .bl (ns.any id)
  | _ => none
def gAll : List D → Option D
  | [.lst xs] => (blsD xs).map fun ns => .bl (ns.all id)
  | _ => none
theorem c_any (hc : X.calm = true) : CallS X S (.builtin "any") .val gAny := CallS.of (cr_any hc) fun G H xs ds z Q wf rr hz k => by
  match ds, hz with
  | [.lst ys], hz =>
    simp only [gAny, Option.map_eq_some_iff] at hz
    obtain ⟨ns, h0, rfl⟩ := hz
    have := blsD_eq h0
    subst this
    obtain ⟨v, rfl, r1⟩ := rr.one
    obtain ⟨a, vs, rfl, h1, h2⟩ := r1.lst wf.gh
    rw [h2.bls] at h1
    exact ⟨a, ns, rfl, SqL.of h1, k _ G H (Ext.refl wf) res_bl⟩
theorem c_all (hc : X.calm = true) : CallS X S (.builtin "all") .val gAll := CallS.of (cr_all hc) fun G H xs ds z Q wf rr hz k => by
  match ds, hz with
  | [.lst ys], hz =>
    simp only [gAll, Option.map_eq_some_iff] at hz
    obtain ⟨ns, h0, rfl⟩ := hz
    have := blsD_eq h0
    subst this
    obtain ⟨v, rfl, r1⟩ := rr.one
    obtain ⟨a, vs, rfl, h1, h2⟩ := r1.lst wf.gh
    rw [h2.bls] at h1
    exact ⟨a, ns, rfl, SqL.of h1, k _ G H (Ext.refl wf) res_bl⟩
/-! ### list(..), tuple(..) -/
def gList : List D → Option D
  | [.lst xs] => some (.lst xs)
  | [.tup xs] => some (.lst xs)
  | _ => none
theorem c_list : CallS X S (.type "list") .fresh gList := CallS.of call_list_of fun G H xs ds z Q wf rr hz k => by
  match ds, hz with
  | [.lst ys], hz =>
    cases hz
    obtain ⟨v, rfl, r1⟩ := rr.one
    obtain ⟨a, vs, rfl, h1, h2⟩ := r1.lst wf.gh
    exact ⟨a, vs, rfl, .inl (SqL.of h1), fun p hp => k _ G _ (Ext.own wf hp) ⟨p, rfl, hp, own_lst (wf.gh.free hp) h2⟩⟩
  | [.tup ys], hz =>
    cases hz
    obtain ⟨v, rfl, r1⟩ := rr.one
    obtain ⟨a, vs, rfl, _, h1, h2⟩ := r1.tup wf.gh
    exact ⟨a, vs, rfl, .inr h1, fun p hp => k _ G _ (Ext.own wf hp) ⟨p, rfl, hp, own_lst (wf.gh.free hp) h2⟩⟩
def gTuple : List D → Option D
  | [.lst xs] => some (.tup xs)
  | [.tup xs] => some (.tup xs)
  | _ => none
theorem c_tuple : CallS X S (.type "tuple") .val gTuple := CallS.of call_tuple_of fun G H xs ds z Q wf rr hz k => by
  match ds, hz with
  | [.lst ys], hz =>
    cases hz
    obtain ⟨v, rfl, r1⟩ := rr.one
    obtain ⟨a, vs, rfl, h1, h2⟩ := r1.lst wf.gh
    exact ⟨a, vs, rfl, .inl ⟨SqL.of h1, fun p hp => k _ _ _ (Ext.lay wf hp) (res_tup (wf.gh.free hp) h2)⟩⟩
  | [.tup ys], hz =>
    cases hz
    obtain ⟨v, rfl, r1⟩ := rr.one
    obtain ⟨a, vs, rfl, h0, h1, h2⟩ := r1.tup wf.gh
    refine ⟨a, vs, rfl, .inr ⟨h1, k _ G H (Ext.refl wf) ?_⟩⟩
    show Rp _ _ _ _ _
    simp only [Rp]
    exact ⟨a, vs, rfl, h0, h2⟩
/-- list(range(..)), tuple(range(..)) -/
def rgOk (a b : Int) : Bool := big a && big b && decide ((b - a).toNat ≤ 2 ^ 24)
def rgD (a b : Int) : List D := (List.range (b - a).toNat).map fun (i : Nat) => D.int (a + (i : Int))
theorem Rps.rg {K : PySem.W.Frag} {w : World} {a b : Int} : Rps K w G (rgD a b) (rgV a b) := by
  unfold rgD rgV
  generalize List.range (b - a).toNat = l
  induction l with
  | nil => exact Rps.nil
  | cons i l ih => exact Rps.cons (by simp only [Rp]) ih
theorem rgOk_ok {a b : Int} (h : rgOk a b = true) : RgOk a b := by
  simp only [rgOk, big, Bool.and_eq_true, decide_eq_true_eq] at h
  exact ⟨h.1.1.1, h.1.1.2, h.1.2.1, h.1.2.2, h.2⟩
def bnds : List D → Option (Int × Int)
  | [.int n] => some (0, n)
  | [.int a, .int b] => some (a, b)
  | _ => none
def mRgL (r : Rho → M (List D)) : Rho → M D := fun ρ => (r ρ).bind fun ds => match bnds ds with
  | some (a, b) => if rgOk a b = true then .ret (.lst (rgD a b)) else .fail
  | none => .fail
def mRgT (r : Rho → M (List D)) : Rho → M D := fun ρ => (r ρ).bind fun ds => match bnds ds with
  | some (a, b) => if rgOk a b = true then .ret (.tup (rgD a b)) else .fail
  | none => .fail
def tRgM (K : PySem.W.Frag) (w : World) (S : Src) (r : Rho → M (List D)) : L2.St → Hp → (Int → Int → Hp → Prop) → Prop := fun σ H Q =>
  ∃ G0 H0 G ρ, Stk K w S G0 H0 G ρ σ H ∧ wp (r ρ) fun ds => ∃ p, bnds ds = some p ∧ ∀ G' H', Ext S G H G' H' → Q p.1 p.2 H'
theorem _root_.L2.PRg.imp {e : Expr} {t t' : L2.St → Hp → (Int → Int → Hp → Prop) → Prop} (h : PRg X e t) (i : ∀ σ H Q, t' σ H Q → t σ H Q) : PRg X e t' := fun pins s σ H Q I q => h pins s σ H Q I (i _ _ _ q)
theorem rg_1 {a : Expr} {m : Rho → M D} {p pos : Pos} (ha : PEm X S a m) (hg : Gl X "range") (hm : X.mg "range" = none) (na : starEach [a] X.env = (false, eval a X.env) :: starEach [] X.env := by rfl) : PRg X (.Call (.Name "range" p) [a] [] pos) (tRgM X.K X.w S (aCons m aNil)) :=
  (prg_1 hg hm ha na).imp fun σ H Q ⟨G0, H0, G, ρ, st, q⟩ => ⟨G0, H0, G, ρ, st, wp_mono (wp_bind.mp q) fun d q1 v G1 H1 e1 r1 => by
    obtain ⟨p, hp, k⟩ := q1
    cases d <;> simp only [bnds, reduceCtorEq, Option.some.injEq] at hp
    subst hp
    have r1' : Rp X.K X.w G1 (.int _) v := r1
    simp only [Rp] at r1'
    exact ⟨_, r1', k G1 H1 e1⟩⟩
theorem rg_2 {a b : Expr} {m n : Rho → M D} {p pos : Pos} (ha : PEm X S a m) (hb : PEm X S b n) (hg : Gl X "range") (hm : X.mg "range" = none) (na : starEach [a, b] X.env = (false, eval a X.env) :: starEach [b] X.env := by rfl)
    (nb : starEach [b] X.env = (false, eval b X.env) :: starEach [] X.env := by rfl) (hp : (backTo pos (starEach [b] X.env)).any (·.1) = false := by rfl) : PRg X (.Call (.Name "range" p) [a, b] [] pos) (tRgM X.K X.w S (aCons m (aCons n aNil))) :=
  (prg_2 hg hm ha hb na nb hp).imp fun σ H Q ⟨G0, H0, G, ρ, st, q⟩ => ⟨G0, H0, G, ρ, st, wp_mono (wp_bind.mp q) fun d q1 v G1 H1 e1 r1 => ⟨G0, H0, G1, ρ, st.step e1, wp_mono (wp_bind.mp (wp_bind.mp q1)) fun e q2 u G2 H2 e2 r2 => by
    obtain ⟨p, hp, k⟩ := q2
    cases d <;> cases e <;> simp only [bnds, reduceCtorEq, Option.some.injEq] at hp
    subst hp
    have r1' : Rp X.K X.w G1 (.int _) v := r1
    simp only [Rp] at r1'
    have r2' : Rp X.K X.w G2 (.int _) u := r2
    simp only [Rp] at r2'
    exact ⟨_, _, r1', r2', k G2 H2 (e1.trans st.wf.src e2)⟩⟩⟩
theorem f_listRg {e : Expr} {r : Rho → M (List D)} {p pos : Pos} (hc : X.calm = true) (he : PRg X e (tRgM X.K X.w S r)) (hg : Gl X "list") (hm : X.mg "list" = none) (na : starEach [e] X.env = (false, eval e X.env) :: starEach [] X.env := by rfl) : PEf X S (.Call (.Name "list" p) [e] [] pos) (mRgL r) :=
  (pe_listRg hc hg hm he na).imp fun σ H Q ⟨G0, H0, G, ρ, st, q⟩ => ⟨G0, H0, G, ρ, st, wp_mono (wp_bind.mp q) fun ds q1 => by
    cases e : bnds ds with
    | none => rw [e] at q1; exact q1.elim
    | some p =>
      obtain ⟨a, b⟩ := p
      rw [e] at q1
      simp only at q1
      split at q1
      · rename_i ok
        exact ⟨_, rfl, fun G1 H1 e1 => ⟨rgOk_ok ok, fun x hx => q1 _ G1 _ (e1.trans st.wf.src (Ext.own e1.wf hx)) ((show Res X.K X.w S H1 .fresh _ _ G1 (upd H1 x (.lst (rgV a b))) from ⟨x, rfl, hx, own_lst (e1.wf.gh.free hx) Rps.rg⟩).pull st.wf.src e1)⟩⟩
      · exact q1.elim⟩
theorem x_tupRg {e : Expr} {r : Rho → M (List D)} {p pos : Pos} (hc : X.calm = true) (he : PRg X e (tRgM X.K X.w S r)) (hg : Gl X "tuple") (hm : X.mg "tuple" = none) (na : starEach [e] X.env = (false, eval e X.env) :: starEach [] X.env := by rfl) : PEm X S (.Call (.Name "tuple" p) [e] [] pos) (mRgT r) :=
  (pe_tupRg hc hg hm he na).imp fun σ H Q ⟨G0, H0, G, ρ, st, q⟩ => ⟨G0, H0, G, ρ, st, wp_mono (wp_bind.mp q) fun ds q1 => by
    cases e : bnds ds with
    | none => rw [e] at q1; exact q1.elim
    | some p =>
      obtain ⟨a, b⟩ := p
      rw [e] at q1
      simp only at q1
      split at q1
      · rename_i ok
        exact ⟨_, rfl, fun G1 H1 e1 => ⟨rgOk_ok ok, fun x hx => q1 _ _ _ (e1.trans st.wf.src (Ext.lay e1.wf hx)) (res_tup (e1.wf.gh.free hx) Rps.rg)⟩⟩
      · exact q1.elim⟩
/-! ### isinstance -/
def tyD : D → String
  | .non => "NoneType"
  | .bl _ => "bool"
  | .int _ => "int"
  | .str _ => "str"
  | .tup _ => "tuple"
  | .lst _ => "list"
  | .dct _ => "dict"
theorem kit_D {d : D} {x : V} {u : Value} (I : Inv X pins σ H s) (wf : Same G H) (r : Rr X.K X.w S G H d x) (rx : RelV x u) : ∃ P : Heap → Prop, PySem.W.KitX X.K u (.type (tyD d)) P ∧ P s.heap ∧ u ≠ .builtin "__main__.__loader__#opaque" := by
  cases d with
  | non =>
    have e : x = .non := by
      rcases r with h | ⟨a, e1, _, _, h⟩
      · simpa only [Rp] using h
      · exact h.elim
    subst e
    cases (show u = Value.none from rx)
    exact ⟨_, PySem.W.kitx_none, True.intro, fun z => nomatch z⟩
  | bl b => rw [r.bl] at rx; cases (show u = Value.bool b from rx); exact ⟨_, PySem.W.kitx_bool, True.intro, fun z => nomatch z⟩
  | int b => rw [r.int] at rx; obtain ⟨t, q⟩ := (show ∃ t, u = Value.int b t from rx); cases q; exact ⟨_, PySem.W.kitx_int, True.intro, fun z => nomatch z⟩
  | str b => rw [r.str] at rx; obtain ⟨t, q⟩ := (show ∃ t, u = Value.str b t from rx); cases q; exact ⟨_, PySem.W.kitx_str, True.intro, fun z => nomatch z⟩
  | tup ds =>
    obtain ⟨a, vs, rfl, _, h1, _⟩ := r.tup wf
    cases (show u = Value.ref a from rx)
    obtain ⟨its, _, ⟨o, ho, hc, _⟩, _⟩ := I.tuple h1
    exact ⟨_, PySem.W.kitx_tuple, ⟨o, ho, hc⟩, fun z => nomatch z⟩
  | lst ds =>
    obtain ⟨a, vs, rfl, h1, _⟩ := r.lst wf
    cases (show u = Value.ref a from rx)
    obtain ⟨its, n, _, ho, _⟩ := I.lst h1
    exact ⟨_, PySem.W.kitx_list, ⟨_, ho, rfl⟩, fun z => nomatch z⟩
  | dct ds =>
    obtain ⟨a, xs, rfl, ⟨_, _, _, o, _, _, ho, hc, _⟩, _⟩ := r.dct I wf
    cases (show u = Value.ref a from rx)
    exact ⟨_, PySem.W.kitx_dict, ⟨o, ho, hc.1⟩, fun z => nomatch z⟩
def tyNames : List String := ["NoneType", "bool", "int", "str", "tuple", "list", "dict"]
theorem tyD_mem (d : D) : tyD d ∈ tyNames := by cases d <;> simp [tyD, tyNames]
def isTy (T : String) (d : D) : Bool := tyD d == T || (T == "int" && tyD d == "bool")
theorem isTy_ok {T : String} (h : T = "tuple" ∨ T = "int" ∨ T = "bool" ∨ T = "str") (d : D) : kitB (tyD d) T = some (isTy T d) := by
  rcases h with h | h | h | h <;> subst h <;> cases d <;> simp only [tyD, isTy] <;> decide +kernel
def mIsi (T : String) (m : Rho → M D) : Rho → M D := fun ρ => (m ρ).bind fun d => .ret (.bl (isTy T d))
theorem call_isD (T : String) (hT : T = "tuple" ∨ T = "int" ∨ T = "bool" ∨ T = "str") : CallR X (.builtin "isinstance") (fun xs H Q => ∃ (G : Hp) (d : D) (x : V), Wf S G H ∧ xs = [x, .ty T] ∧ Rr X.K X.w S G H d x ∧ Q (.bl (isTy T d)) H) := by
  intro pins s σ H xs us Q I r h
  obtain ⟨G, d, x, wf, rfl, rr, q⟩ := h
  obtain ⟨u1, u2, rfl, r1, r2⟩ := vals2 r
  cases (show u2 = Value.type T from r2)
  obtain ⟨P, Z, p, hx⟩ := kit_D I wf.gh rr r1
  exact PySem.W.kia_one Z I.kIn p (kit_ty (isTy_ok hT d)) hx fun tk => ⟨.bl _, H, I.tok tk, rfl, q⟩
theorem x_isi (T : String) {x : Str} {e : Expr} {m : Rho → M D} {p p2 pos : Pos} (hT : T = "tuple" ∨ T = "int" ∨ T = "bool" ∨ T = "str") (he : PEr X S e m) (hg : Gl X "isinstance") (hm : X.mg "isinstance" = none) (hg2 : Gl X x) (hm2 : X.mg x = none) (hv : bootBuiltins x = some (.type T)) (hn : x ≠ "__name__" := by decide) (hd : (x == ("__debug__" : Str)) = false := by decide)
    (h1 : starEach [e, .Name x p2] X.env = (false, eval e X.env) :: starEach [.Name x p2] X.env := by rfl) (h2 : starEach [.Name x p2] X.env = (false, eval (.Name x p2) X.env) :: starEach [] X.env := by rfl) (h3 : (backTo pos (starEach [.Name x p2] X.env)).any (·.1) = false := by rfl) : PEm X S (.Call (.Name "isinstance" p) [e, .Name x p2] [] pos) (mIsi T m) :=
  (pe_callB (pos := pos) (call_isD (S := S) T hT) hg hm (by rfl) (pa_cons he (pa_cons (pe_bltn (v := .ty T) hg2 hm2 hv rfl hn hd) pa_nil h2) h1) (by decide) (by decide) h1 h3).imp fun σ H Q ⟨G0, H0, G, ρ, st, q⟩ => ⟨G0, H0, G, ρ, st, wp_mono (wp_bind.mp q) fun d q1 v G1 H1 e1 r1 => ⟨G1, d, v, e1.wf, rfl, r1, q1 _ G1 H1 e1 res_bl⟩⟩
end
end PL

/-! PL13: stores, methods, dicts made, repr -/
namespace PL
open PySem PySem.Spec PyProof.Rows L2
section
variable {X : Cx} {S : Src} {G H : Hp} {s : Shared} {pins : List (Addr × Obj)} {σ : L2.St}
/-! ### o[i] = v -/
def gSto : D → D → D → Option D
  | .lst xs, .int i, v => (ixN xs.length i).map fun j => .lst (xs.set j v)
  | .dct kvs, k, v => (D.key k).bind fun k => if kOk k (kvs.map (·.1)) = true ∧ (put2 kvs k v).length ≤ sizeLine then some (.dct (put2 kvs k v)) else none
  | _, _, _ => none
def stoT (X : Cx) (S : Src) : TSet := fun o x v H Q => ∃ G d k e d' a, Wf S G H ∧ o = .ref a ∧ OwnAt X.K X.w G H d a ∧ Rr X.K X.w S G H k x ∧ Rp X.K X.w G e v ∧ gSto d k e = some d' ∧ ∀ ho, OwnAt X.K X.w G (upd H a ho) d' a → Q (upd H a ho)
theorem put_len_eq {kvs : List (NestedKey × D)} {xs : Xs} (h : xs.map (·.1) = kvs.map (·.1)) (k : NestedKey) (kv v : V) (d : D) : (put3 xs k kv v).length = (put2 kvs k d).length := by
  have e1 : (xs.any fun x => decide (x.1 = k)) = (xs.map (·.1)).any fun x => decide (x = k) := by rw [List.any_map]; rfl
  have e2 : (kvs.any fun x => decide (x.1 = k)) = (kvs.map (·.1)).any fun x => decide (x = k) := by rw [List.any_map]; rfl
  have e3 : xs.length = kvs.length := by simpa using congrArg List.length h
  rw [put3_len, put2_len, e1, e2, h, e3]
theorem set_all (hu : X.A.units + 70 < cLine) : PSet X (stoT X S) := by
  intro pins s σ H o i v ov iv u Q I ro ri rv h
  obtain ⟨G, d, k, e, d', a, wf, rfl, own, rk, re, hg, q⟩ := h
  cases ro
  obtain ⟨hG, hO⟩ := own
  cases d with
  | lst xs =>
    cases k <;> simp only [gSto, reduceCtorEq, Option.map_eq_some_iff] at hg
    obtain ⟨j, h1, rfl⟩ := hg
    obtain ⟨vs, h2, h3⟩ := hO
    rw [rk.int] at ri
    refine set_list pins s σ H (.ref a) (.int _) v (.ref a) iv u Q I rfl ri rv ⟨a, vs, _, j, rfl, rfl, h2, by rw [h3.length]; exact h1, q _ ⟨hG, _, upd_same, h3.set re j⟩⟩
  | dct kvs =>
    simp only [gSto, Option.bind_eq_some_iff] at hg
    obtain ⟨kk, hk, hg⟩ := hg
    split at hg
    · rename_i ok
      simp only [Option.some.injEq] at hg
      subst hg
      obtain ⟨xs, h2, h3⟩ := hO
      refine road_set I (by omega) wf.gh h2 h3.kf (rr_key hk rk) ri (by rw [h3.keys]; exact ok.1) rv (by rw [put_len_eq h3.keys]; exact ok.2) fun s' I' => ⟨_, I', q _ ⟨hG, _, upd_same, h3.put (rr_key hk rk) re⟩⟩
    · cases hg
  | _ => simp [gSto] at hg
def ownAt (i : Nat) (ρ : Rho) : M D := match ρ[i]? with
  | some (.own d) => .ret d
  | _ => .fail
theorem wp_own {i : Nat} {ρ : Rho} {Q : D → Prop} (h : wp (ownAt i ρ) Q) : ∃ d, ρ[i]? = some (.own d) ∧ Q d := by
  unfold ownAt at h
  cases e : ρ[i]? with
  | none => rw [e] at h; exact h.elim
  | some s =>
    rw [e] at h
    cases s with
    | own d => exact ⟨d, rfl, h⟩
    | _ => exact h.elim
def mSto (i : Nat) (mi me : Rho → M D) : Rho → M Out := fun ρ => (me ρ).bind fun v => (ownAt i ρ).bind fun d => (mi ρ).bind fun k => (M.opt (gSto d k v)).bind fun d' => .ret (.nx (ρ.set i (.own d')))
theorem s_sto (i : Nat) {x : Str} {ix e : Expr} {mi me : Rho → M D} {pos tpos npos : Pos} (hu : X.A.units + 70 < cLine) (he : PEm X S e me) (hi : PEr X S ix mi) (hN : X.N[i]? = some x := by rfl) (hv : Vis X.env.scope x := by first | exact Or.inl rfl | exact Or.inr (Or.inl rfl) | exact Or.inr (Or.inr rfl)) (hd : (x == ("__debug__" : Str)) = false := by decide)
    (hcd : (x == ("__classdict__" : Str)) = false := by decide) (hs : swapsWithSole [.Subscript (.Name x npos) ix tpos] e pos.line X.env = pure false := by rfl) (hw : swappedStores [.Subscript (.Name x npos) ix tpos] e X.env = pure none := by rfl)
    (h1 : (assignEach [.Subscript (.Name x npos) ix tpos] X.env).map (·.2) = [assign (.Subscript (.Name x npos) ix tpos) X.env] := by rfl)
    (ha : ∀ v, assign (.Subscript (.Name x npos) ix tpos) X.env v = (do
      let ov ← holding [v] (eval (.Name x npos) X.env)
      let iv ← holding [v, ov] (eval ix X.env)
      standAt tpos
      holding [v, ov, iv] (setItem ov iv v)
      release [v, ov, iv] []) := by intro _; rfl) : PSm X S (.Assign [.Subscript (.Name x npos) ix tpos] e pos) (mSto i mi me) :=
  (ps_asg he (pg_sub (pe_var (i := i) hN hv hd hcd) hi (set_all (S := S) hu) ha) hs hw h1).imp fun E σ H ⟨G0, H0, G, ρ, st, q⟩ => by
    refine ⟨G0, H0, G, ρ, st, wp_mono (wp_bind.mp q) fun v q1 vv G1 H1 e1 r1 => ?_⟩
    have st1 := st.step e1
    obtain ⟨d, hd, q1⟩ := wp_own (wp_bind.mp q1)
    obtain ⟨a, ea, ha0, oa⟩ := st1.slots i _ hd
    refine ⟨_, ea, G0, H0, G1, ρ, st1, wp_mono (wp_bind.mp q1) fun k q2 kv G2 H2 e2 r2 => ?_⟩
    obtain ⟨d', hd', q4⟩ := wp_opt.mp (wp_bind.mp q2)
    have st2 := st1.step e2
    have r1' : Rp X.K X.w G1 v vv := r1
    refine ⟨G2, d, k, v, d', a, e2.wf, rfl, oa.ext (st1.src0.notS ha0) e2, r2, Rp.same e2.gg _ _ r1', hd', fun ho oo => ?_⟩
    exact q4 G2 σ _ (e1.trans st.wf.src e2).gg (st2.mut hd ea oo)
/-! ### xs.append(e) .. -/
def gApp : D → List D → Option D
  | .lst xs, [y] => if xs.length < sizeLine then some (.lst (xs ++ [y])) else none
  | _, _ => none
def gExt : D → List D → Option D
  | .lst xs, [.lst ys] => if xs.length + ys.length ≤ sizeLine then some (.lst (xs ++ ys)) else none
  | _, _ => none
def ownL (i : Nat) (ρ : Rho) : M D := match ρ[i]? with
  | some (.own (.lst xs)) => .ret (.lst xs)
  | _ => .fail
theorem wp_ownL {i : Nat} {ρ : Rho} {Q : D → Prop} (h : wp (ownL i ρ) Q) : ∃ xs, ρ[i]? = some (.own (.lst xs)) ∧ Q (.lst xs) := by
  unfold ownL at h
  cases e : ρ[i]? with
  | none => rw [e] at h; exact h.elim
  | some s =>
    rw [e] at h
    cases s with
    | own d =>
      cases d with
      | lst xs => exact ⟨xs, rfl, h⟩
      | _ => exact h.elim
    | _ => exact h.elim
def mMut (i : Nat) (g : D → List D → Option D) (r : Rho → M (List D)) : Rho → M Out := fun ρ => (ownL i ρ).bind fun d => (r ρ).bind fun ds => (M.opt (g d ds)).bind fun d' => .ret (.nx (ρ.set i (.own d')))
/-- a method that changes its list, by data -/
def MutS (X : Cx) (S : Src) (id : String) (g : D → List D → Option D) : Prop := MtM X id fun x vs H Q => ∃ G d ds d' a, Wf S G H ∧ x = .ref a ∧ OwnAt X.K X.w G H d a ∧ Rps X.K X.w G ds vs ∧ g d ds = some d' ∧ ∀ ho, OwnAt X.K X.w G (upd H a ho) d' a → Q .non (upd H a ho)
theorem mut_append : MutS X S "list.append" gApp := by
  intro pins s σ H x vs v us Q I rx rv h
  obtain ⟨G, d, ds, d', a, wf, rfl, own, rr, hg, q⟩ := h
  obtain ⟨hG, hO⟩ := own
  match d, ds, hg with
  | .lst xs, [y], hg =>
    simp only [gApp] at hg
    split at hg
    · rename_i hl
      simp only [Option.some.injEq] at hg
      subst hg
      obtain ⟨zs, h2, h3⟩ := hO
      simp only [Rps] at rr
      obtain ⟨u, r, rfl, r1, rfl⟩ := rr
      exact mt_append pins s σ H _ _ v us Q I rx rv ⟨a, zs, u, rfl, rfl, h2, by rw [h3.length]; exact hl, q _ ⟨hG, _, upd_same, h3.append (Rps.cons r1 Rps.nil)⟩⟩
    · cases hg
theorem mut_extend : MutS X S "list.extend" gExt := by
  intro pins s σ H x vs v us Q I rx rv h
  obtain ⟨G, d, ds, d', a, wf, rfl, own, rr, hg, q⟩ := h
  obtain ⟨hG, hO⟩ := own
  match d, ds, hg with
  | .lst xs, [.lst ys], hg =>
    simp only [gExt] at hg
    split at hg
    · rename_i hl
      simp only [Option.some.injEq] at hg
      subst hg
      obtain ⟨zs, h2, h3⟩ := hO
      simp only [Rps, Rp] at rr
      obtain ⟨u, r, rfl, ⟨b, ws, rfl, h4, h5⟩, rfl⟩ := rr
      exact mt_extend pins s σ H _ _ v us Q I rx rv ⟨a, b, zs, ws, rfl, rfl, h2, wf.gh _ _ h4, by rw [h3.length, h5.length]; exact hl, q _ ⟨hG, _, upd_same, h3.append h5⟩⟩
    · cases hg
theorem s_mut (i : Nat) {x name : Str} {e : Expr} {es : List Expr} {id : String} {g : D → List D → Option D} {r : Rho → M (List D)} {apos cpos npos pos : Pos} (pa : PlainAttrs "list") (slot : PySem.Slot "list" name id) (hty : typeOf (.builtin id) = pure (.type "method_descriptor")) (hm : MutS X S id g)
    (ha : PAm X S (e :: es) r) (hN : X.N[i]? = some x := by rfl) (hv : Vis X.env.scope x := by first | exact Or.inl rfl | exact Or.inr (Or.inl rfl) | exact Or.inr (Or.inr rfl)) (hd : (x == ("__debug__" : Str)) = false := by decide)
    (hcd : (x == ("__classdict__" : Str)) = false := by decide) (hbase : attributeBase (.Name x npos) name X.env (eval (.Name x npos) X.env) = eval (.Name x npos) X.env := by rfl)
    (hfew : ((backTo cpos (starEach (e :: es) X.env)).all (fun x => !x.1) && (backToKw cpos (keywordEach [] X.env)).all (fun x => x.1.isSome)
      && decide ((e :: es).length + ([] : List Keyword).length + (if ([] : List Keyword).isEmpty then 0 else 1) < 30)) = true := by rfl)
    (hline : (apos.endLine == cpos.line) = true := by rfl) (hst : starEach (e :: es) X.env = (false, eval e X.env) :: starEach es X.env := by rfl) (hplain : (backTo cpos (starEach es X.env)).any (·.1) = false := by rfl)
    (hs : swapsWith (.Call (.Attribute (.Name x npos) name apos) (e :: es) [] cpos) none pos.line X.env = pure false := by rfl) : PSm X S (.Expr (.Call (.Attribute (.Name x npos) name apos) (e :: es) [] cpos) pos) (mMut i g r) :=
  (ps_expr (pe_bm pa slot hty hm (pe_var (i := i) hN hv hd hcd) ha hbase hfew hline hst hplain) hs).imp fun E σ H ⟨G0, H0, G, ρ, st, q⟩ => by
    obtain ⟨xs, hd, q1⟩ := wp_ownL (wp_bind.mp q)
    obtain ⟨a, ea, ha0, oa⟩ := st.slots i _ hd
    have oa' := oa
    obtain ⟨_, zs, hz, _⟩ := oa'
    refine ⟨_, ea, .inl ⟨rfl, zs, SqL.of hz⟩, G0, H0, G, ρ, st, wp_mono (wp_bind.mp q1) fun ds q2 vs G1 H1 e1 r1 => ?_⟩
    obtain ⟨d', hd', q3⟩ := wp_opt.mp (wp_bind.mp q2)
    exact ⟨G1, _, ds, d', a, e1.wf, rfl, oa.ext (st.src0.notS ha0) e1, r1, hd', fun ho oo => q3 G1 σ _ e1.gg ((st.step e1).mut hd ea oo)⟩
end
end PL

/-! PL14: repr, tuple * int, sorted -/
namespace PL
open PySem PySem.Spec PyProof.Rows L2

/-! ### t * k -/
theorem tuple_mulS (l : Addr) (items : Array Value) (n : Nat) (dd : Option Addr) (sl : Array (Option Value)) (x : Int) (u : Tok) (c0 : (decide (x < -(2 ^ 63)) || decide (x ≥ 2 ^ 63)) = false) (c1 : (items.isEmpty || x == 1) = true) :
    Meets (Builtin.«tuple.__mul__» ⟨[.ref l, .int x u], []⟩) (fun _ R s => s.heap.get? l = some { cls := .type "tuple", dict := dd, data := .seq items n, slots := sl } ∧ R (.ok (.ret (Value.ref l))) s) :=
  .of_wp fun prog w A R s h => by
    obtain ⟨hp, g, d, tk, os⟩ := s
    obtain ⟨hl, h⟩ := h
    have f1 := AutoSeq1.idx_int
    wp_walk using wpAny_loadPart' hl
    repeat (first
      | (refine wpAny_ite_false (decide_eq_false (by rw [c0]; exact Bool.false_ne_true)) ?_; wp_walk using wpAny_loadPart' hl)
      | (refine wpAny_ite_true (decide_eq_true c1) ?_; wp_walk using wpAny_loadPart' hl))
    all_goals first | exact ⟨_, rfl, h⟩ | exact h | skip
theorem tuple_mul0 (l : Addr) (items : Array Value) (n : Nat) (dd : Option Addr) (sl : Array (Option Value)) (x : Int) (u : Tok) (c0 : (decide (x < -(2 ^ 63)) || decide (x ≥ 2 ^ 63)) = false) (c1 : (items.isEmpty || x == 1) = false) (c2 : (decide (x ≤ 0) || items.isEmpty) = true) :
    Meets (Builtin.«tuple.__mul__» ⟨[.ref l, .int x u], []⟩) (fun _ R s => s.heap.get? l = some { cls := .type "tuple", dict := dd, data := .seq items n, slots := sl } ∧
      R (.ok (.ret (Value.ref s.heap.objs.size))) { s with heap := s.heap.push { cls := Value.type "tuple", data := Data.seq #[] }, toks := s.toks }) :=
  .of_wp fun prog w A R s h => by
    obtain ⟨hp, g, d, tk, os⟩ := s
    obtain ⟨hl, h⟩ := h
    have f1 := AutoSeq1.idx_int
    wp_walk using wpAny_loadPart' hl
    repeat (first
      | (refine wpAny_ite_false (decide_eq_false (by rw [c0]; exact Bool.false_ne_true)) ?_; wp_walk using wpAny_loadPart' hl)
      | (refine wpAny_ite_false (decide_eq_false (by rw [c1]; exact Bool.false_ne_true)) ?_; wp_walk using wpAny_loadPart' hl)
      | (refine wpAny_ite_true (decide_eq_true c2) ?_; wp_walk using wpAny_loadPart' hl))
    all_goals first | exact ⟨_, rfl, h⟩ | exact h | skip
section
variable {X : Cx} {S : Src}
def rMulT (K : PySem.W.Frag) : R2 := fun x y H Q => ∃ l k xs, x = .ref l ∧ y = .int k ∧ SqT K H l xs ∧ -1000 ≤ k ∧ k ≤ 1000 ∧ xs.length ≤ 1000 ∧ (xs = [] ∨ k = 1 → Q (.ref l) H) ∧ (¬ (xs = [] ∨ k = 1) → ∀ p, H p = none → Q (.ref p) (upd H p (.tup (List.replicate k.toNat xs).flatten)))
theorem op_mulT : OpR X (binaryOp .Mult) (rMulT X.K) := by
  intro pins s σ H x y v u Q I rx ry h
  obtain ⟨l, k, xs, rfl, rfl, hT, h1, h2, hz, q, q2⟩ := h
  obtain ⟨its, r, ⟨⟨cls, dd, data, sl⟩, ho, hc, n, hd⟩, hs⟩ := I.tuple hT
  simp only at hc hd
  subst hc hd
  have hle : its.length = xs.length := r.length.symm
  have c0 : (decide (k < -(2 ^ 63)) || decide (k ≥ 2 ^ 63)) = false := by
    rw [decide_eq_false (by omega), decide_eq_false (by omega)] <;> rfl
  by_cases hs : xs = [] ∨ k = 1
  · have c1 : (its.toArray.isEmpty || k == 1) = true := by
      rcases hs with e | e
      · subst e
        have : its = [] := List.eq_nil_of_length_eq_zero hle
        subst this
        rfl
      · subst e
        simp
    cases rx
    obtain ⟨t, rfl⟩ := ry
    exact wpAny_binaryOp_repeat_ref (T := "tuple") (U := "int") (by decide) ⟨_, ho, rfl⟩ (fun s' => typeIs_int s' k t) noFill_tuple_mul F.fills_int_mul F.slot_int_rmul repeat_tuple F.slot_int_index.lookup
      (call_meets F.slot_int_rmul (typeIs_int s k t) F.entry_int_rmul (F.args_int_rmul_2 _ _) (int_rmul_tuple k t l its.toArray n dd sl)
        ⟨ho, rfl, ⟨_, ho, rfl⟩, call_meets F.slot_tuple_mul ⟨_, ho, rfl⟩ F.entry_tuple_mul (F.args_tuple_mul_2 _ _) (tuple_mulS l its.toArray n dd sl k t c0 c1) ⟨ho, ⟨.ref l, H, I, rfl, q hs⟩⟩⟩)
  · have hne : xs ≠ [] := fun e => hs (.inl e)
    have hk1 : k ≠ 1 := fun e => hs (.inr e)
    by_cases hk : 2 ≤ k
    · exact op_repT pins s σ H _ _ v u Q I rx ry ⟨l, k, xs, rfl, rfl, hT, hne, hk, h2, hz, q2 hs⟩
    · have c1 : (its.toArray.isEmpty || k == 1) = false := by
        have hn : its ≠ [] := fun e => hne (by
          rw [e] at hle
          exact List.eq_nil_of_length_eq_zero hle.symm)
        have hi : its.toArray.isEmpty = false := by
          cases its with
          | nil => exact absurd rfl hn
          | cons a b => rfl
        rw [hi, Bool.false_or]
        exact beq_eq_false_iff_ne.mpr hk1
      have c2 : (decide (k ≤ 0) || its.toArray.isEmpty) = true := by
        rw [decide_eq_true (by omega)]
        rfl
      cases rx
      obtain ⟨t, rfl⟩ := ry
      refine wpAny_binaryOp_repeat_ref (T := "tuple") (U := "int") (by decide) ⟨_, ho, rfl⟩ (fun s' => typeIs_int s' k t) noFill_tuple_mul F.fills_int_mul F.slot_int_rmul repeat_tuple F.slot_int_index.lookup
        (call_meets F.slot_int_rmul (typeIs_int s k t) F.entry_int_rmul (F.args_int_rmul_2 _ _) (int_rmul_tuple k t l its.toArray n dd sl)
          ⟨ho, rfl, ⟨_, ho, rfl⟩, call_meets F.slot_tuple_mul ⟨_, ho, rfl⟩ F.entry_tuple_mul (F.args_tuple_mul_2 _ _) (tuple_mul0 l its.toArray n dd sl k t c0 c1 c2) ⟨ho, ?_⟩⟩)
      have e0 : (List.replicate k.toNat xs).flatten = [] := by rw [show k.toNat = 0 by omega]; rfl
      have q3 := q2 hs
      rw [e0] at q3
      exact ⟨.ref s.heap.objs.size, _, I.laid (t' := s.toks) (o := .tup []) (fun b ob q => Heap.get?_push_of_some _ q) (Nat.le_refl _) ⟨Nat.zero_le _, [], .nil, IsTup.new _ _⟩, rfl, q3 _ (I.hok.fresh (Nat.le_refl _))⟩
def repD (k : Int) (xs : List D) : List D := (List.replicate k.toNat xs).flatten
theorem Rps.rep {K : PySem.W.Frag} {w : World} {G : Hp} {ds : List D} {vs : List V} (h : Rps K w G ds vs) : ∀ n : Nat, Rps K w G (List.replicate n ds).flatten (List.replicate n vs).flatten
  | 0 => Rps.nil
  | n + 1 => by
    rw [List.replicate_succ, List.replicate_succ, List.flatten_cons, List.flatten_cons]
    exact h.append (Rps.rep h n)
/-- a * b -/
def gMul : D → D → Option D
  | .int i, .int j => if (small i || small j) = true then some (.int (i * j)) else none
  | .tup xs, .int k => if decide (-1000 ≤ k) = true ∧ decide (k ≤ 1000) = true ∧ xs.length ≤ 1000 then some (.tup (repD k xs)) else none
  | .lst xs, .int k => if decide (-1000 ≤ k) = true ∧ decide (k ≤ 1000) = true ∧ xs.length ≤ 1000 then some (.lst (repD k xs)) else none
  | _, _ => none
def gRep : D → D → Option D
  | .lst xs, .int k => if decide (-1000 ≤ k) = true ∧ decide (k ≤ 1000) = true ∧ xs.length ≤ 1000 then some (.lst (repD k xs)) else none
  | _, _ => none
theorem rep_size {n : Nat} {k : Int} (h1 : k ≤ 1000) (h2 : n ≤ 1000) : n * k.toNat ≤ sizeLine := by
  rw [sizeLine_eq]
  have a1 : n * k.toNat ≤ 1000 * 1000 := Nat.mul_le_mul h2 (by omega)
  omega
theorem s_times : OpS X S (binaryOp .Mult) .val gMul := OpS.of ((op_mul (X := X)).or ((op_mulT (X := X)).or op_rep)) fun G H x y d e z Q wf r1 r2 hz k => by
  cases d <;> cases e <;> simp only [gMul, reduceCtorEq] at hz
  · split at hz
    · rename_i hs
      simp only [Option.some.injEq] at hz
      subst hz
      refine .inl ⟨_, _, r1.int, r2.int, ?_, k _ G H (Ext.refl wf) res_int⟩
      unfold CMul
      simpa only [small, Bool.or_eq_true, Bool.and_eq_true, decide_eq_true_eq] using hs
    · cases hz
  · split at hz
    · rename_i xs kk hs
      obtain ⟨c1, c2, c3⟩ := hs
      simp only [Option.some.injEq] at hz
      subst hz
      obtain ⟨a, vs, rfl, h0, h1, h2⟩ := r1.tup wf.gh
      refine .inr (.inl ⟨a, kk, vs, rfl, r2.int, h1, of_decide_eq_true c1, of_decide_eq_true c2, by rw [h2.length]; exact c3, fun hh => ?_, fun _ p hp => k _ _ _ (Ext.lay wf hp) (res_tup (wf.gh.free hp) (h2.rep _))⟩)
      refine k _ G H (Ext.refl wf) ?_
      show Rp _ _ _ _ _
      simp only [Rp]
      refine ⟨a, vs, rfl, h0, ?_⟩
      rcases hh with e | e
      · subst e
        have : xs = [] := List.eq_nil_of_length_eq_zero h2.length.symm
        subst this
        have : repD kk [] = [] := by simp [repD]
        rw [this]
        exact Rps.nil
      · subst e
        have : repD 1 xs = xs := by simp [repD]
        rw [this]
        exact h2
    · cases hz
  · split at hz
    · rename_i xs kk hs
      obtain ⟨c1, c2, c3⟩ := hs
      have c1' := of_decide_eq_true c1
      have c2' := of_decide_eq_true c2
      simp only [Option.some.injEq] at hz
      subst hz
      obtain ⟨a, vs, rfl, h1, h2⟩ := r1.lst wf.gh
      exact .inr (.inr ⟨a, kk, vs, rfl, r2.int, h1, by omega, by omega, by rw [h2.length]; exact rep_size c2' c3, fun p hp => k _ _ _ (Ext.lay wf hp) (res_lst (wf.gh.free hp) (h2.rep _))⟩)
    · cases hz
theorem s_rep : OpS X S (binaryOp .Mult) .fresh gRep := OpS.of op_rep fun G H x y d e z Q wf r1 r2 hz k => by
  cases d <;> cases e <;> simp only [gRep, reduceCtorEq] at hz
  split at hz
  · rename_i xs kk hs
    obtain ⟨c1, c2, c3⟩ := hs
    have c1' := of_decide_eq_true c1
    have c2' := of_decide_eq_true c2
    simp only [Option.some.injEq] at hz
    subst hz
    obtain ⟨a, vs, rfl, h1, h2⟩ := r1.lst wf.gh
    exact ⟨a, kk, vs, rfl, r2.int, h1, by omega, by omega, by rw [h2.length]; exact rep_size c2' c3, fun p hp => k _ G _ (Ext.own wf hp) ⟨p, rfl, hp, own_lst (wf.gh.free hp) (h2.rep _)⟩⟩
  · cases hz
end

/-! ### as the library reads data -/
mutual
/-- no list in it -/
def noLst : D → Bool
  | .tup xs => noLsts xs
  | .lst _ => false
  | .dct kvs => noLstk kvs
  | _ => true
def noLsts : List D → Bool
  | [] => true
  | x :: xs => noLst x && noLsts xs
def noLstk : List (NestedKey × D) → Bool
  | [] => true
  | (_, d) :: r => noLst d && noLstk r
end
section
variable {X : Cx} {S : Src} {G H : Hp} {s : Shared} {pins : List (Addr × Obj)} {σ : L2.St}
mutual
theorem Kp.reads (I : Inv X pins σ H s) (e : Same G H) : ∀ (k : NestedKey) (v : V) (u : Value), Kp X.K G k v → RelV v u → Reads s.heap u k.data []
  | .none, v, u, h, r => by
    simp only [Kp] at h
    subst h
    cases r
    exact .none
  | .num i, v, u, h, r => by
    simp only [Kp] at h
    subst h
    obtain ⟨t, rfl⟩ := r
    exact .int i t
  | .text x, v, u, h, r => by
    simp only [Kp] at h
    subst h
    obtain ⟨t, rfl⟩ := r
    exact .str x t
  | .tup ks, v, u, h, r => by
    simp only [Kp] at h
    obtain ⟨a, vs, rfl, h1, h2⟩ := h
    cases r
    obtain ⟨its, rv, ⟨o, e1, hc, n, hdat⟩, _⟩ := I.tuple (sqT_same e h1)
    exact .tuple e1 hc hdat (by simpa using Kps.reads I e ks vs its h2 rv)
theorem Kps.reads (I : Inv X pins σ H s) (e : Same G H) : ∀ (ks : List NestedKey) (vs : List V) (us : List Value), Kps X.K G ks vs → Vals vs us → ReadsAll s.heap us (NestedKey.datas ks) []
  | [], vs, us, h, r => by
    simp only [Kps] at h
    subst h
    cases r
    exact .nil
  | k :: ks, vs, us, h, r => by
    simp only [Kps] at h
    obtain ⟨v, vr, rfl, h1, h2⟩ := h
    cases r with
    | cons r rr => exact .cons (Kp.reads I e k v _ h1 r) (Kps.reads I e ks vr _ h2 rr)
end
mutual
theorem Rp.reads (I : Inv X pins σ H s) (e : Same G H) : ∀ (d : D) (v : V) (u : Value), Rp X.K X.w G d v → RelV v u → ∃ as, Reads s.heap u d.py as ∧ (noLst d = true → ∀ a ∈ as, (a == sysModules) = false)
  | .non, v, u, h, r => by
    simp only [Rp] at h
    subst h
    cases r
    exact ⟨[], .none, fun _ _ q => nomatch q⟩
  | .bl b, v, u, h, r => by
    simp only [Rp] at h
    subst h
    cases (show u = Value.bool b from r)
    exact ⟨[], .bool b, fun _ _ q => nomatch q⟩
  | .int i, v, u, h, r => by
    simp only [Rp] at h
    subst h
    obtain ⟨t, rfl⟩ := r
    exact ⟨[], .int i t, fun _ _ q => nomatch q⟩
  | .str x, v, u, h, r => by
    simp only [Rp] at h
    subst h
    obtain ⟨t, rfl⟩ := r
    exact ⟨[], .str x t, fun _ _ q => nomatch q⟩
  | .tup ds, v, u, h, r => by
    simp only [Rp] at h
    obtain ⟨a, vs, rfl, h1, h2⟩ := h
    cases r
    obtain ⟨its, rv, ⟨o, e1, hc, n, hdat⟩, _⟩ := I.tuple (sqT_same e h1)
    obtain ⟨as, ra, hn⟩ := Rps.reads I e ds vs its h2 rv
    exact ⟨as, .tuple e1 hc hdat (by simpa using ra), fun q => hn (by simpa only [noLst] using q)⟩
  | .lst ds, v, u, h, r => by
    simp only [Rp] at h
    obtain ⟨a, vs, rfl, h1, h2⟩ := h
    cases r
    obtain ⟨its, n, rv, ho, _⟩ := I.lst (e _ _ h1)
    obtain ⟨as, ra, hn⟩ := Rps.reads I e ds vs its h2 rv
    exact ⟨_, .list ho rfl rfl (by simpa using ra), fun q => by simp [noLst] at q⟩
  | .dct kvs, v, u, h, r => by
    simp only [Rp] at h
    obtain ⟨a, od, xs, rfl, h1, h2⟩ := h
    cases r
    obtain ⟨_, ⟨_, hS, _, o, es, ep, ho, hc, hd, hp⟩, _⟩ := I.hok a _ (e _ _ h1)
    obtain ⟨as, bs, ra, rb, ea, hn⟩ := Rpk.reads I e kvs xs es.toList h2 hp
    refine ⟨_, .dict ho hc.1 hd ra rb, fun q b hb => ?_⟩
    rcases List.mem_append.mp hb with hb | hb
    · rcases List.mem_cons.mp hb with hb | hb
      · subst hb
        exact hS
      · subst ea
        cases hb
    · exact hn (by simpa only [noLst] using q) b hb
theorem Rps.reads (I : Inv X pins σ H s) (e : Same G H) : ∀ (ds : List D) (vs : List V) (us : List Value), Rps X.K X.w G ds vs → Vals vs us → ∃ as, ReadsAll s.heap us (D.pys ds) as ∧ (noLsts ds = true → ∀ a ∈ as, (a == sysModules) = false)
  | [], vs, us, h, r => by
    simp only [Rps] at h
    subst h
    cases r
    exact ⟨[], .nil, fun _ _ q => nomatch q⟩
  | d :: ds, vs, us, h, r => by
    simp only [Rps] at h
    obtain ⟨v, vr, rfl, h1, h2⟩ := h
    cases r with
    | cons r rr =>
      obtain ⟨as, ra, na⟩ := Rp.reads I e d v _ h1 r
      obtain ⟨bs, rb, nb⟩ := Rps.reads I e ds vr _ h2 rr
      refine ⟨as ++ bs, .cons ra rb, fun q a ha => ?_⟩
      simp only [noLsts, Bool.and_eq_true] at q
      rcases List.mem_append.mp ha with ha | ha
      · exact na q.1 a ha
      · exact nb q.2 a ha
theorem Rpk.reads (I : Inv X pins σ H s) (e : Same G H) : ∀ (kvs : List (NestedKey × D)) (xs : Xs) (es : List DictEntry), Rpk X.K X.w G kvs xs → Paired (EntOk X.w) xs es →
    ∃ as bs, ReadsAll s.heap (es.map (·.key)) ((D.pyk kvs).map (·.1)) as ∧ ReadsAll s.heap (es.map (·.val)) ((D.pyk kvs).map (·.2)) bs ∧ as = [] ∧ (noLstk kvs = true → ∀ a ∈ bs, (a == sysModules) = false)
  | [], xs, es, h, r => by
    simp only [Rpk] at h
    subst h
    cases r
    exact ⟨[], [], .nil, .nil, rfl, fun _ _ q => nomatch q⟩
  | (k, d) :: kvs, xs, es, h, r => by
    simp only [Rpk] at h
    obtain ⟨kv, vv, xr, rfl, h0, h1, h2⟩ := h
    cases r with
    | cons r rr =>
      obtain ⟨_, r1, r2⟩ := r
      have ra := Kp.reads I e k kv _ h0 r1
      obtain ⟨bs, rb, nb⟩ := Rp.reads I e d vv _ h1 r2
      obtain ⟨as', bs', ra', rb', ea, nb'⟩ := Rpk.reads I e kvs xr _ h2 rr
      subst ea
      refine ⟨[] ++ [], bs ++ bs', .cons ra ra', .cons rb rb', rfl, fun q a ha => ?_⟩
      simp only [noLstk, Bool.and_eq_true] at q
      rcases List.mem_append.mp ha with ha | ha
      · exact nb q.1 a ha
      · exact nb' q.2 a ha
end
theorem Rr.reads {d : D} {v : V} {u : Value} (I : Inv X pins σ H s) (e : Same G H) (h : Rr X.K X.w S G H d v) (r : RelV v u) : ∃ as, Reads s.heap u d.py as ∧ (noLst d = true → ∀ a ∈ as, (a == sysModules) = false) := by
  rcases h with h | ⟨a, e1, _, _, h⟩
  · exact Rp.reads I e d v u h r
  · subst e1
    cases r
    cases d with
    | lst ds =>
      obtain ⟨vs, h1, h2⟩ := h
      obtain ⟨its, n, rv, ho, _⟩ := I.lst h1
      obtain ⟨as, ra, hn⟩ := Rps.reads I e ds vs its h2 rv
      exact ⟨_, .list ho rfl rfl (by simpa using ra), fun q => by simp [noLst] at q⟩
    | dct kvs =>
      obtain ⟨xs, h1, h2⟩ := h
      obtain ⟨⟨_, hS, _, o, es, ep, ho, hc, hd, hp⟩, _⟩ := I.hok a _ h1
      obtain ⟨as, bs, ra, rb, ea, hn⟩ := Rpk.reads I e kvs xs es.toList h2 hp
      refine ⟨_, .dict ho hc.1 hd ra rb, fun q b hb => ?_⟩
      rcases List.mem_append.mp hb with hb | hb
      · rcases List.mem_cons.mp hb with hb | hb
        · subst hb
          exact hS
        · subst ea
          cases hb
      · exact hn (by simpa only [noLst] using q) b hb
    | _ => exact h.elim
/-! ### repr -/
mutual
theorem noDct_has : ∀ d : D, noDct d = true → d.py.hasDict = false
  | .non, _ => by simp only [D.py, PyData.hasDict]
  | .bl _, _ => by simp only [D.py, PyData.hasDict]
  | .int _, _ => by simp only [D.py, PyData.hasDict]
  | .str _, _ => by simp only [D.py, PyData.hasDict]
  | .tup xs, h => by
    simp only [D.py, PyData.hasDict]
    exact noDcts_has xs (by simpa only [noDct] using h)
  | .lst xs, h => by
    simp only [D.py, PyData.hasDict]
    exact noDcts_has xs (by simpa only [noDct] using h)
  | .dct _, h => by simp [noDct] at h
theorem noDcts_has : ∀ xs : List D, noDcts xs = true → PyData.hasDictAll (D.pys xs) = false
  | [], _ => by simp only [D.pys, PyData.hasDictAll]
  | x :: xs, h => by
    simp only [noDcts, Bool.and_eq_true] at h
    simp only [D.pys, PyData.hasDictAll, noDct_has x h.1, noDcts_has xs h.2, Bool.or_self]
end
def okRepr (d : D) : Bool := d.py.showable && (noDct d || noLst d) && decide (d.py.depth ≤ 60) && decide (d.py.shown.length ≤ sizeLine)
def gRepr : List D → Option D
  | [d] => if okRepr d = true then some (.str d.py.shown) else none
  | _ => none
theorem c_repr (hu : X.A.units + 70 < cLine) (hgd : X.A.guards = some []) : CallS X S (.builtin "repr") .val gRepr := by
  intro pins s σ H xs us Q I r hw
  obtain ⟨G, ds, z, wf, rr, hz, k⟩ := hw
  match ds, hz with
  | [d], hz =>
    simp only [gRepr] at hz
    split at hz
    · rename_i ok
      simp only [Option.some.injEq] at hz
      subst hz
      simp only [okRepr, Bool.and_eq_true, Bool.or_eq_true, decide_eq_true_eq] at ok
      obtain ⟨⟨⟨o1, o2⟩, o3⟩, o4⟩ := ok
      obtain ⟨v, rfl, r1⟩ := rr.one
      obtain ⟨u, rfl, ru⟩ := r.one
      obtain ⟨as, rd, hn⟩ := r1.reads I wf.gh ru
      have fin : ∀ (h' : Heap) t tk, (∀ b o, s.heap.get? b = some o → h'.get? b = some o) → EP X pins σ Q (.str d.py.shown t) { s with heap := h', toks := tk } := fun h' t tk hk => ⟨.str d.py.shown, H, I.kept hk, ⟨_, rfl⟩, k _ G H (Ext.refl wf) res_str⟩
      have hsm : d.py.hasDict = true → sysModules ∉ as := fun hd hm => by
        rcases o2 with q | q
        · rw [noDct_has d q] at hd
          cases hd
        · have := hn q _ hm
          simp at this
      by_cases href : ∃ a, u = .ref a
      · obtain ⟨a, rfl⟩ := href
        exact repr_of_reads' rd o1 hsm hgd (by omega) (fun _ _ e => e) (fun h' t tk hk => fin h' t tk hk) o4
      · generalize hdp : d.py = dp at rd o1 o4 fin
        cases rd with
        | none => exact PySem.P.repr_of_none (fin s.heap _ _ fun _ _ e => e)
        | bool b => exact PySem.P.repr_of_bool (fin s.heap _ _ fun _ _ e => e)
        | int i t => exact PySem.P.repr_of_int (by simpa [PyData.showable] using o1) (fin s.heap _ _ fun _ _ e => e)
        | str x t => exact PySem.P.repr_of_str (fin s.heap _ _ fun _ _ e => e) o4
        | list => exact absurd ⟨_, rfl⟩ href
        | tuple => exact absurd ⟨_, rfl⟩ href
        | dict => exact absurd ⟨_, rfl⟩ href
    · cases hz
end
end PL

/-! PL15: dict displays, dict(pairs), d.get -/
namespace PL
open PySem PySem.Spec PyProof.Rows L2
section
variable {X : Cx} {S : Src} {G H : Hp} {s : Shared} {pins : List (Addr × Obj)} {σ : L2.St} {d : Addr} {xs : Xs} {k : NestedKey} {kv : V} {ku : Value}
/-- d[k] = v, the dict's own store -/
theorem road_dset {A : Around} {E : Value → Shared → Prop} (I : Inv X pins σ H s) (hu : A.units + 64 < cLine) (hg : Same G H) (hd : H d = some (DO X.w d xs)) (kf : KF X.K G xs) (hk : Kp X.K G k kv) (r : RelV kv ku) (ok : kOk k (xs.map (·.1)) = true) {vv : V} {u : Value} (rv : RelV vv u) (hz : (put3 xs k kv vv).length ≤ sizeLine) {Q : Unit → Shared → Prop}
    (h : ∀ s', Inv X pins σ (upd H d (DO X.w d (put3 xs k kv vv))) s' → Q () s') : wpAny (model X.prog X.w) A (dictSet d ku u) Q E s := by
  obtain ⟨x, _, st⟩ := I.hok d _ hd
  have hz0 : xs.length ≤ sizeLine := x.1
  have hS := x.2.1
  have fin : ∀ h' t, DObj X.w d (put3 xs k kv vv) h' → Heap.SameBut d s.heap h' → Inv X pins σ (upd H d (DO X.w d (put3 xs k kv vv))) { s with heap := h', toks := t } := fun h' t x' sb => by
    have eo : ∃ o, h'.get? d = some o := by
      obtain ⟨_, _, _, o, _, _, e, _⟩ := x'
      exact ⟨o, e⟩
    refine I.write (x := d) (e := d) (by rw [hd]; trivial) (.inl rfl) (fun b o hb e => (sb.2 b hb).trans e) eo ?_
    refine ⟨x', eo, fun h1 h2 y hk => ?_⟩
    obtain ⟨z1, z2, z3, o, es, ep, e, c⟩ := y
    exact ⟨z1, z2, z3, o, es, ep, hk _ e, c⟩
  rcases kOk_cases ok with ⟨h1, h2⟩ | ⟨q, h1, h2⟩
  · obtain ⟨ys, hp, hD⟩ := to_tup I hg x kf h2
    obtain ⟨a, rfl, rfl, hi⟩ := ktup_is h1 (kp_is I hg k kv ku hk r) r hk
    refine wpAny_dictSet_heap (hsz := by rw [← hp.length]; exact hz0) (show A.units + 8 < cLine by omega) hi hD fun h' hD' sb => h _ (fin h' _ (tup_dobj hz hS (tx_put hp rv) hD') sb)
  · obtain ⟨ys, hp, hD⟩ := to_mix x kf h2
    have e := kp_mix h1 hk
    subst e
    have hi : (mixKind X.prog X.w).is q ku = true := kV_is r
    refine wpAny_dictSet_pairs (hsz := by rw [← hp.length]; exact hz0) hi hD fun h' hD' sb => h _ (fin h' _ (mix_dobj hz hS (mx_put h1 hp rv) hD') sb)
/-- keys and values by turns -/
def dctOf : List D → List (NestedKey × D) → Option (List (NestedKey × D))
  | [], acc => some acc
  | [_], _ => none
  | k :: v :: r, acc => (D.key k).bind fun kk => if kOk kk (acc.map (·.1)) = true ∧ (put2 acc kk v).length ≤ sizeLine then dctOf r (put2 acc kk v) else none
def flatP (vs : List (Value × Value)) : List Value := vs.flatMap fun p => [p.1, p.2]
theorem flatP_cons (p : Value × Value) (vs : List (Value × Value)) : flatP (p :: vs) = p.1 :: p.2 :: flatP vs := rfl
theorem upd2 {H : Hp} {a : Addr} {o o' : HO} : upd (upd H a o) a o' = upd H a o' := upd_upd
theorem store_all (hu : X.A.units + 64 < cLine) {d : Addr} (hdg : G d = none) : ∀ (vs : List (Value × Value)) (ds : List D) (ws : List V) (acc kvs : List (NestedKey × D)) (xs : Xs) (H : Hp) (s : Shared) (Q : PUnit → Shared → Prop), Inv X pins σ H s → Same G H → Vals ws (flatP vs) → Rps X.K X.w G ds ws → H d = some (DO X.w d xs) → Rpk X.K X.w G acc xs → dctOf ds acc = some kvs →
    (∀ s' xs', Inv X pins σ (upd H d (DO X.w d xs')) s' → Rpk X.K X.w G kvs xs' → Q PUnit.unit s') →
    wpAny (model X.prog X.w) X.A (forIn vs PUnit.unit fun (x : Value × Value) (_ : PUnit) => (do dictSet d x.1 x.2; pure (ForInStep.yield PUnit.unit) : Sem (ForInStep PUnit))) Q X.xe s
  | [], ds, ws, acc, kvs, xs, H, s, Q, I, hg, rv, rr, hd, ra, hk, hQ => by
    rw [List.forIn_nil]
    cases rv
    have e : ds = [] := by
      have := rr.length
      cases ds with
      | nil => rfl
      | cons _ _ => simp at this
    subst e
    simp only [dctOf, Option.some.injEq] at hk
    subst hk
    refine wpAny_pure (hQ s xs ?_ ra)
    have : upd H d (DO X.w d xs) = H := by
      funext b
      unfold upd
      split
      · rename_i e
        rw [e, hd]
      · rfl
    rw [this]
    exact I
  | (ku, vu) :: vs, ds, ws, acc, kvs, xs, H, s, Q, I, hg, rv, rr, hd, ra, hk, hQ => by
    rw [flatP_cons] at rv
    cases rv with
    | @cons wk _ ws1 _ r1 rv =>
      cases rv with
      | @cons wv _ ws2 _ r2 rv =>
        match ds, rr, hk with
        | [], rr, hk => simp [Rps] at rr
        | [_], rr, hk =>
          simp only [Rps] at rr
          obtain ⟨v, r, e, _, h2⟩ := rr
          injection e with e1 e2
          subst e2
          cases h2
        | k :: v :: r, rr, hk =>
          simp only [Rps] at rr
          obtain ⟨a1, t1, e1, p1, a2, t2, e2, p2, p3⟩ := rr
          injection e1 with z1 z2
          subst z1 z2
          injection e2 with z1 z2
          subst z1 z2
          simp only [dctOf, Option.bind_eq_some_iff] at hk
          obtain ⟨kk, hkk, hk⟩ := hk
          split at hk
          · rename_i ok
            rw [List.forIn_cons]
            refine wpAny_bind (wpAny_bind (road_dset I hu hg hd ra.kf (Rp.kp _ _ _ hkk p1) r1 (by rw [ra.keys]; exact ok.1) r2 (by rw [put_len_eq ra.keys]; exact ok.2) fun s' I' => wpAny_pure ?_))
            refine store_all hu hdg vs r ws2 _ kvs _ _ s' Q I' (fun b o q => ?_) rv p3 upd_same (ra.put (Rp.kp _ _ _ hkk p1) p2) hk fun s'' xs'' I'' rk => hQ s'' xs'' (by rw [upd2] at I''; exact I'') rk
            rw [upd_ne (ne_of_none q hdg)]
            exact hg _ _ q
          · cases hk
/-- pairs of expressions -/
structure PP (X : Cx) (ps : List (Sem Value × Sem Value)) (t : TA) : Prop where
  run : ∀ (pins : List (Addr × Obj)) (s : Shared) (σ : L2.St) (H : Hp) (Q : List V → Hp → Prop), Inv X pins σ H s → t σ H Q → wpAny (model X.prog X.w) X.A (evalPairs ps) (fun vs s' => ∃ xs H', Inv X pins σ H' s' ∧ Vals xs (flatP vs) ∧ Q xs H') X.xe s
abbrev PPm (X : Cx) (S : Src) (ps : List (Sem Value × Sem Value)) (m : Rho → M (List D)) : Prop := PP X ps (tA X.K X.w S m)
theorem p_nil : PPm X S [] aNil := ⟨fun pins s σ H Q I ⟨G0, H0, G, ρ, st, q⟩ => evalPairs_nil ⟨[], H, I, .nil, q [] G H (Ext.refl st.wf) Rps.nil⟩⟩
theorem p_cons {k v : Expr} {pos : Pos} {ps : List (Sem Value × Sem Value)} {mk mv : Rho → M D} {r : Rho → M (List D)} (hk : PEm X S k mk) (hv : PEm X S v mv) (hr : PPm X S ps r) : PPm X S ((eval k X.env, do let x ← eval v X.env; standAt pos; pure x) :: ps) (aCons mk (aCons mv r)) := by
  refine ⟨fun pins s σ H Q I ⟨G0, H0, G, ρ, st, q⟩ => evalPairs_cons ?_⟩
  refine thn (hk.run pins s σ H (fun v1 H1 => ∃ G1, Stk X.K X.w S G0 H0 G1 ρ σ H1 ∧ Ext S G H G1 H1 ∧ ∃ d1, Rp X.K X.w G1 d1 v1 ∧ wp ((aCons mv r ρ).bind fun xs => .ret (d1 :: xs)) fun ds => ∀ vs G' H', Ext S G H G' H' → Rps X.K X.w G' ds vs → Q vs H') I
    ⟨G0, H0, G, ρ, st, wp_mono (wp_bind.mp q) fun d1 q1 v1 G1 H1 e1 r1 => ⟨G1, st.step e1, e1, d1, r1, q1⟩⟩) fun u1 s1 ⟨v1, H1, I1, rv1, G1, st1, e1, d1, p1, q1⟩ => ?_
  refine wpAny_bind (thn (hv.run pins s1 σ H1 (fun v2 H2 => ∃ G2, Stk X.K X.w S G0 H0 G2 ρ σ H2 ∧ Ext S G1 H1 G2 H2 ∧ ∃ d2, Rp X.K X.w G2 d2 v2 ∧ wp (r ρ) fun ds => ∀ vs G' H', Ext S G H G' H' → Rps X.K X.w G' (d1 :: d2 :: ds) vs → Q vs H') I1
    ⟨G0, H0, G1, ρ, st1, wp_mono (wp_bind.mp (wp_bind.mp q1)) fun d2 q2 v2 G2 H2 e2 r2 => ⟨G2, st1.step e2, e2, d2, r2, wp_mono (wp_bind.mp q2) fun ds q3 => q3⟩⟩) fun u2 s2 ⟨v2, H2, I2, rv2, G2, st2, e2, d2, p2, q2⟩ => ?_)
  refine wpAny_bind (wpAny_standAt (wpAny_pure ?_))
  refine thn (hr.run pins s2 σ H2 (fun vs H3 => Q (v1 :: v2 :: vs) H3) I2 ⟨G0, H0, G2, ρ, st2, wp_mono q2 fun ds q3 vs G' H' e3 r3 => ?_⟩) fun vs s3 ⟨xs, H3, I3, rv3, q3⟩ => ⟨v1 :: v2 :: xs, H3, I3, .cons rv1 (.cons rv2 rv3), q3⟩
  have e12 := e1.trans st.wf.src e2
  exact q3 _ G' H' (e12.trans st.wf.src e3) (Rps.cons (Rp.same (e2.gg.trans e3.gg) _ _ p1) (Rps.cons (Rp.same e3.gg _ _ p2) r3))
def mDct (r : Rho → M (List D)) : Rho → M D := fun ρ => (r ρ).bind fun ds => .opt ((dctOf ds []).map .dct)
theorem do_nil {w : World} (h : Heap) (hb : sysModules < h.objs.size) : DObj w h.objs.size [] (h.push { cls := .type "dict", data := .dict #[] }) :=
  ⟨Nat.zero_le _, beq_eq_false_iff_ne.mpr (Nat.ne_of_gt hb), List.nodup_nil, _, #[], 0, Heap.get?_push_size _ rfl, ⟨rfl, rfl, rfl⟩, rfl, .nil⟩
theorem Ext.poke {G H G' H' : Hp} {a : Addr} {o : HO} (e : Ext S G H G' H') (w0 : SrcAt S H) (ha : H a = none) (hg : G' a = none) : Ext S G H G' (upd H' a o) := by
  have hs := w0.notS ha
  refine ⟨e.gg, ⟨fun b o' q => ?_, fun p hp => ?_, e.wf.gs⟩, fun b o' q n => ?_, e.new⟩
  · rw [upd_ne (ne_of_none q hg)]
    exact e.wf.gh _ _ q
  · obtain ⟨ne, cells, l, m, t, h1, h2, r⟩ := e.wf.src p hp
    obtain ⟨n1, n2⟩ := hs p hp
    exact ⟨ne, cells, l, m, t, by rw [upd_ne n1.symm]; exact h1, by rw [upd_ne n2.symm]; exact h2, r⟩
  · rw [upd_ne (ne_of_none q ha)]
    exact e.fr b o' q n
theorem f_dct {keys : List (Option Expr)} {values : List Expr} {pos : Pos} {ps : List (Sem Value × Sem Value)} {r : Rho → M (List D)} (hu : X.A.units + 70 < cLine) (h : PPm X S ps r)
    (hshape : (evalEachOpt keys X.env).zip ((evalEach values X.env).map fun v => do let x ← v; standAt pos; pure x) = ps.map fun p => (some p.1, p.2)) (h0 : ps ≠ []) (hlen : ps.length ≤ 15) : PEf X S (.Dict keys values pos) (mDct r) := by
  refine ⟨fun pins s σ H Q I ⟨G0, H0, G, ρ, st, q⟩ => ?_⟩
  rw [arm_eval_Dict, hshape, dictDisplay_pairs ps h0 (by omega)]
  refine wpAny_bind (wpAny_standAt (wpAny_bind ?_))
  unfold subDict
  refine wpAny_bind (wpAny_alloc ?_)
  refine wpAny_bind (wpAny_holding ?_)
  rw [if_pos hlen]
  have hfr : H s.heap.objs.size = none := I.fresh
  have hG : G s.heap.objs.size = none := st.wf.gh.free hfr
  have dn : DObj X.w s.heap.objs.size [] (s.heap.push { cls := .type "dict", data := .dict #[] }) := do_nil s.heap I.big
  have I1 : Inv X pins σ (upd H s.heap.objs.size (DO X.w s.heap.objs.size [])) { s with heap := s.heap.push { cls := .type "dict", data := .dict #[] } } :=
    I.laid (t' := s.toks) (fun b ob q => Heap.get?_push_of_some _ q) (Nat.le_refl _) (by
      refine ⟨dn, ⟨_, Heap.get?_push_size _ rfl⟩, fun h1 h2 y hk => ?_⟩
      obtain ⟨z1, z2, z3, o, es, ep, e, c⟩ := y
      exact ⟨z1, z2, z3, o, es, ep, hk _ e, c⟩)
  have x1 : Ext S G H G (upd H s.heap.objs.size (DO X.w s.heap.objs.size [])) := Ext.own st.wf hfr
  have st1 := st.step x1
  have hns := st.wf.src.notS hfr
  refine wpAny_bind (thn (h.run pins _ σ _ (fun ws H2 => ∃ G2 ds kvs, Ext S G (upd H s.heap.objs.size (DO X.w s.heap.objs.size [])) G2 H2 ∧ Rps X.K X.w G2 ds ws ∧ dctOf ds [] = some kvs ∧ ∀ v G' H', Ext S G H G' H' → Res X.K X.w S H .fresh (.dct kvs) v G' H' → Q v H') I1
    ⟨G0, H0, G, ρ, st1, wp_mono (wp_bind.mp q) fun ds q1 ws G2 H2 e2 r2 => ?_⟩) fun vs s2 ⟨ws, H2, I2, rv, G2, ds, kvs, e2, r2, hk, fin⟩ => ?_)
  · obtain ⟨d', hd', k'⟩ := wp_opt.mp q1
    rw [Option.map_eq_some_iff] at hd'
    obtain ⟨kvs, hkv, rfl⟩ := hd'
    exact ⟨G2, ds, kvs, e2, r2, hkv, k'⟩
  have hH2 : H2 s.heap.objs.size = some (DO X.w s.heap.objs.size []) := e2.fr _ _ upd_same hns
  have hG2 : G2 s.heap.objs.size = none := by
    cases z : G2 s.heap.objs.size with
    | none => rfl
    | some o =>
      have := e2.new _ hG (by rw [z]; simp)
      rw [upd_same] at this
      cases this
  refine wpAny_holding ?_
  refine wpAny_bind (store_all (G := G2) (by omega) hG2 vs ds ws [] kvs [] H2 s2 _ I2 e2.wf.gh rv r2 hH2 (by simp only [Rpk]) hk fun s3 xs' I3 rk => ?_)
  refine wpAny_pure (wpAny_pure (wpAny_pure ⟨.ref s.heap.objs.size, _, I3, rfl, fin _ G2 _ ((x1.trans st.wf.src e2).poke st.wf.src hfr hG2) ⟨s.heap.objs.size, rfl, hfr, hG2, xs', upd_same, rk⟩⟩))
theorem f_dct0 {pos : Pos} : PEf X S (.Dict [] [] pos) (vC (.dct [])) := by
  refine ⟨fun pins s σ H Q I ⟨G0, H0, G, ρ, st, q⟩ => ?_⟩
  have hfr : H s.heap.objs.size = none := I.fresh
  refine wpAny_Dict_empty ⟨.ref s.heap.objs.size, upd H s.heap.objs.size (DO X.w s.heap.objs.size []), I.laid (t' := s.toks) (fun b ob q => Heap.get?_push_of_some _ q) (Nat.le_refl _) ?_, rfl, q _ G _ (Ext.own st.wf hfr) ⟨_, rfl, hfr, st.wf.gh.free hfr, [], upd_same, by simp only [Rpk]⟩⟩
  refine ⟨do_nil s.heap I.big, ⟨_, Heap.get?_push_size _ rfl⟩, fun h1 h2 y hk => ?_⟩
  obtain ⟨z1, z2, z3, o, es, ep, e, c⟩ := y
  exact ⟨z1, z2, z3, o, es, ep, hk _ e, c⟩

/-! ### d.get(k, x) -/
def gGet : D → List D → Option D
  | .dct kvs, [k, x] => (D.key k).bind fun kk => if kOk kk (kvs.map (·.1)) = true then some ((at2 kvs kk).getD x) else none
  | .dct kvs, [k] => (D.key k).bind fun kk => if kOk kk (kvs.map (·.1)) = true then some ((at2 kvs kk).getD .non) else none
  | _, _ => none
def tyDct (X : Cx) (S : Src) : V → Hp → Prop := fun x H => ∃ G kvs, Wf S G H ∧ Rr X.K X.w S G H (.dct kvs) x
theorem ty_dct : TyOk X "dict" (tyDct X S) := by
  intro pins σ H s x v I r ty
  obtain ⟨G, kvs, wf, rr⟩ := ty
  obtain ⟨a, xs, rfl, ⟨_, _, _, o, _, _, ho, hc, _⟩, _⟩ := rr.dct I wf.gh
  cases r
  refine ⟨⟨o, ho, hc.1⟩, fun b e => ?_⟩
  cases e
  exact ⟨o, ho, hc.2.1⟩
theorem road_get1 {A : Around} {E : Value → Shared → Prop} (I : Inv X pins σ H s) (hu : A.units + 64 < cLine) (hg : Same G H) (x : DObj X.w d xs s.heap) (kf : KF X.K G xs) (hk : Kp X.K G k kv) (r : RelV kv ku) (ok : kOk k (xs.map (·.1)) = true) {Q : Value → Shared → Prop}
    (h : ∀ v t, RelV ((at3 xs k).getD .non) v → Q v { s with toks := t }) : wpAny (model X.prog X.w) A (call (.builtin "dict.get") [.ref d, ku]) Q E s := by
  have hS := x.2.1
  rcases kOk_cases ok with ⟨h1, h2⟩ | ⟨q, h1, h2⟩
  · obtain ⟨ys, hp, hD⟩ := to_tup I hg x kf h2
    obtain ⟨a, rfl, rfl, hi⟩ := ktup_is h1 (kp_is I hg k kv ku hk r) r hk
    refine get_keyed (show A.units + 1 + 8 < cLine by omega) hi hS ⟨ys, hD, rfl⟩ ?_
    rw [valueAt_pairsH]
    rcases tx_at k hp with ⟨e, e2⟩ | ⟨x, y, e1, e2, t, _⟩
    · rw [e2]; rw [e] at h; exact h _ _ rfl
    · rw [e2]; rw [e1] at h; exact h _ _ t.2.2
  · obtain ⟨ys, hp, hD⟩ := to_mix x kf h2
    have hi : (mixKind X.prog X.w).is q ku = true := kV_is (by rw [← kp_mix h1 hk]; exact r)
    refine call_meetsIn F.slot_dict_get hD.typeIs F.entry_dict_get (F.args_dict_get_2 _ _) (meets_dict_get (mixKind X.prog X.w) d hi hS) ⟨_, hD.mapOf, ?_⟩
    rcases mx_at h1 hp with ⟨e, e2⟩ | ⟨x, y, e1, e2, t, _⟩
    · rw [e2]; rw [e] at h; exact h _ _ rfl
    · rw [e2]; rw [e1] at h; exact h _ _ t.2.2
def getR (X : Cx) (S : Src) : V → List V → Hp → VK → Prop := fun x vs H Q => ∃ G d ds r, Wf S G H ∧ Rr X.K X.w S G H d x ∧ Rps X.K X.w G ds vs ∧ gGet d ds = some r ∧ ∀ v, Rp X.K X.w G r v → Q v H
theorem mt_get (hu : X.A.units + 70 < cLine) : MtR X "dict.get" (getR X S) := by
  intro pins s σ H x vs v us Q I rx rv h
  obtain ⟨G, d, ds, r, wf, rr, rp, hg, q⟩ := h
  match d, ds, hg with
  | .dct kvs, [k, y], hg =>
    simp only [gGet, Option.bind_eq_some_iff] at hg
    obtain ⟨kk, hk, hg⟩ := hg
    split at hg
    · rename_i ok
      simp only [Option.some.injEq] at hg
      subst hg
      obtain ⟨a, xs, rfl, hd, h2⟩ := rr.dct I wf.gh
      cases rx
      simp only [Rps] at rp
      obtain ⟨v1, r1, rfl, p1, v2, r2, rfl, p2, rfl⟩ := rp
      obtain ⟨u1, u2, rfl, ru1, ru2⟩ := vals2 rv
      refine road_get I (by omega) wf.gh hd h2.kf (Rp.kp _ _ _ hk p1) ru1 (by rw [h2.keys]; exact ok) ru2 fun w t rw' => ⟨_, H, I.tok t, rw', q _ ?_⟩
      rcases h2.at3 kk with ⟨z, z2⟩ | ⟨d', vv, z, z2, r3⟩
      · rw [z, z2]; exact p2
      · rw [z, z2]; exact r3
    · cases hg
  | .dct kvs, [k], hg =>
    simp only [gGet, Option.bind_eq_some_iff] at hg
    obtain ⟨kk, hk, hg⟩ := hg
    split at hg
    · rename_i ok
      simp only [Option.some.injEq] at hg
      subst hg
      obtain ⟨a, xs, rfl, hd, h2⟩ := rr.dct I wf.gh
      cases rx
      simp only [Rps] at rp
      obtain ⟨v1, r1, rfl, p1, rfl⟩ := rp
      obtain ⟨u1, rfl, ru1⟩ := rv.one
      refine road_get1 I (by omega) wf.gh hd h2.kf (Rp.kp _ _ _ hk p1) ru1 (by rw [h2.keys]; exact ok) fun w t rw' => ⟨_, H, I.tok t, rw', q _ ?_⟩
      rcases h2.at3 kk with ⟨z, z2⟩ | ⟨d', vv, z, z2, r3⟩
      · rw [z, z2]; exact rp_non
      · rw [z, z2]; exact r3
    · cases hg
def isDct : D → M D
  | .dct kvs => .ret (.dct kvs)
  | _ => .fail
def mGet (m : Rho → M D) (r : Rho → M (List D)) : Rho → M D := fun ρ => (m ρ).bind fun d => (isDct d).bind fun d => (r ρ).bind fun ds => .opt (gGet d ds)
theorem x_get {o e : Expr} {es : List Expr} {apos cpos : Pos} {m : Rho → M D} {r : Rho → M (List D)} (hu : X.A.units + 70 < cLine) (ho : PEr X S o m) (ha : PAm X S (e :: es) r)
    (hbase : attributeBase o "get" X.env (eval o X.env) = eval o X.env := by rfl)
    (hfew : ((backTo cpos (starEach (e :: es) X.env)).all (fun x => !x.1) && (backToKw cpos (keywordEach [] X.env)).all (fun x => x.1.isSome)
      && decide ((e :: es).length + ([] : List Keyword).length + (if ([] : List Keyword).isEmpty then 0 else 1) < 30)) = true := by rfl)
    (hline : (apos.endLine == cpos.line) = true := by rfl) (hs : starEach (e :: es) X.env = (false, eval e X.env) :: starEach es X.env := by rfl) (hplain : (backTo cpos (starEach es X.env)).any (·.1) = false := by rfl) : PEm X S (.Call (.Attribute o "get" apos) (e :: es) [] cpos) (mGet m r) :=
  (pe_mG (ty_dct (S := S)) F.plainAttrs_dict F.slot_dict_get F.type_dict_get (mt_get (S := S) hu) ho ha hbase hfew hline hs hplain).imp fun σ H Q ⟨G0, H0, G, ρ, st, q⟩ => by
    refine ⟨G0, H0, G, ρ, st, wp_mono (wp_bind.mp q) fun d q1 v G1 H1 e1 r1 => ?_⟩
    cases d with
    | dct kvs =>
      have r1' : Rr X.K X.w S G1 H1 (.dct kvs) v := r1
      refine ⟨⟨G1, kvs, e1.wf, r1'⟩, G0, H0, G1, ρ, st.step e1, wp_mono (wp_bind.mp q1) fun ds q2 vs G2 H2 e2 r2 => ?_⟩
      obtain ⟨r, hr, k⟩ := wp_opt.mp q2
      exact ⟨G2, _, ds, r, e2.wf, r1'.ext e2, r2, hr, fun v rv => k v G2 H2 (e1.trans st.wf.src e2) rv⟩
    | _ => exact q1.elim
end
end PL

/-! PL16: dict(pairs) -/
namespace PL
open PySem PySem.Spec PyProof.Rows L2
section
variable {X : Cx} {S : Src} {G H : Hp} {s : Shared} {pins : List (Addr × Obj)} {σ : L2.St}
def pairsD : List D → Option (List (NestedKey × D))
  | [] => some []
  | .tup [k, v] :: r => (D.key k).bind fun kk => (pairsD r).map fun kds => (kk, v) :: kds
  | _ :: _ => none
def ksOk (ks : List NestedKey) : Bool := ks.all ktup || ks.all fun x => (kmix x).isSome
def putAll (kds : List (NestedKey × D)) (acc : List (NestedKey × D)) : List (NestedKey × D) := kds.foldl (fun a x => put2 a x.1 x.2) acc
def putAll3 (xs acc : Xs) : Xs := xs.foldl (fun a x => put3 a x.1 x.2.1 x.2.2) acc
def gDictP : List D → Option D
  | [.lst ps] => (pairsD ps).bind fun kds => if ksOk (kds.map (·.1)) = true ∧ kds.length ≤ sizeLine then some (.dct (putAll kds [])) else none
  | _ => none
theorem Rpk.putAll {K : PySem.W.Frag} {w : World} : ∀ {kds acc : List (NestedKey × D)} {xs ac : Xs}, Rpk K w G kds xs → Rpk K w G acc ac → Rpk K w G (PL.putAll kds acc) (putAll3 xs ac)
  | [], acc, xs, ac, h, ha => by
    simp only [Rpk] at h
    subst h
    exact ha
  | (k, d) :: r, acc, xs, ac, h, ha => by
    simp only [Rpk] at h
    obtain ⟨kv, vv, r', rfl, h0, h1, h2⟩ := h
    exact Rpk.putAll (kds := r) (xs := r') h2 (ha.put h0 h1)
def tsOf (us : List Value) (j : Nat) : Addr := match us[j]? with
  | some (.ref T) => T
  | _ => 0
def RV2 (x : NestedKey × V × V) (p : Value × Value) : Prop := RelV x.2.1 p.1 ∧ RelV x.2.2 p.2
theorem pairs_at (I : Inv X pins σ H s) (e : Same G H) : ∀ (ps : List D) (kds : List (NestedKey × D)) (vs : List V) (us : List Value), pairsD ps = some kds → Rps X.K X.w G ps vs → Vals vs us →
    ∃ (pv : List (Value × Value)) (xs : Xs), Rpk X.K X.w G kds xs ∧ Paired RV2 xs pv ∧ us.length = pv.length ∧ ∀ j k v, pv[j]? = some (k, v) → us[j]? = some (.ref (tsOf us j)) ∧ PairAt s.heap (tsOf us j) k v
  | [], kds, vs, us, hp, rr, rv => by
    simp only [pairsD, Option.some.injEq] at hp
    subst hp
    simp only [Rps] at rr
    subst rr
    cases rv
    exact ⟨[], [], by simp only [Rpk], .nil, rfl, fun j k v q => by simp at q⟩
  | p :: ps, kds, vs, us, hp, rr, rv => by
    match p, hp with
    | .tup [k, v], hp =>
      simp only [pairsD, Option.bind_eq_some_iff, Option.map_eq_some_iff] at hp
      obtain ⟨kk, hk, kds', hp', rfl⟩ := hp
      simp only [Rps] at rr
      obtain ⟨v1, vr, rfl, h1, h2⟩ := rr
      simp only [Rp, Rps] at h1
      obtain ⟨T, ws, rfl, hT, kv, w1, rfl, p1, vv, w2, rfl, p2, rfl⟩ := h1
      cases rv with
      | @cons _ u _ us' r rv =>
        cases r
        obtain ⟨pv, xs, g1, g2, g3, g4⟩ := pairs_at I e ps kds' vr us' hp' h2 rv
        obtain ⟨its, ri, ht, _⟩ := I.tuple (sqT_same e hT)
        obtain ⟨ku, vu, rfl, r1, r2⟩ := vals2 ri
        refine ⟨(ku, vu) :: pv, (kk, kv, vv) :: xs, ?_, .cons ⟨r1, r2⟩ g2, by simp [g3], fun j k' v' hj => ?_⟩
        · simp only [Rpk]
          exact ⟨kv, vv, xs, rfl, Rp.kp _ _ _ hk p1, p2, g1⟩
        · cases j with
          | zero =>
            simp only [List.getElem?_cons_zero, Option.some.injEq, Prod.mk.injEq] at hj
            obtain ⟨rfl, rfl⟩ := hj
            exact ⟨rfl, .inl ht⟩
          | succ j =>
            simp only [List.getElem?_cons_succ] at hj
            have e1 : tsOf (.ref T :: us') (j + 1) = tsOf us' j := rfl
            rw [e1]
            exact g4 j k' v' hj
theorem tx_all {pv : List (Value × Value)} {xs : Xs} (h : Paired RV2 xs pv) : (∀ x ∈ xs, ∃ a, x.2.1 = V.ref a) → ∃ ps : List (NestedKey × Addr × Value), Paired TX xs ps ∧ ps.length = pv.length ∧ ∀ (i : Nat) (key v : Value), pv[i]? = some (key, v) → ∃ k b, ps[i]? = some (k, b, v) ∧ key = Value.ref b := by
  induction h with
  | nil => exact fun _ => ⟨[], .nil, rfl, fun i key v q => by simp at q⟩
  | @cons x p l1 l2 r t ih =>
    intro hk
    obtain ⟨ps, h1, h2, h3⟩ := ih fun y hy => hk y (List.mem_cons_of_mem _ hy)
    obtain ⟨a, ha⟩ := hk x List.mem_cons_self
    have r1 := r.1
    rw [ha] at r1
    refine ⟨(x.1, a, p.2) :: ps, .cons ⟨rfl, ha, r.2⟩ h1, by simp [h2], fun i key v q => ?_⟩
    cases i with
    | zero =>
      simp only [List.getElem?_cons_zero, Option.some.injEq] at q
      subst q
      exact ⟨_, _, rfl, r1⟩
    | succ i =>
      simp only [List.getElem?_cons_succ] at q ⊢
      exact h3 i key v q
theorem mx_all {pv : List (Value × Value)} {xs : Xs} (h : Paired RV2 xs pv) : (∀ x ∈ xs, ∃ k, kmix x.1 = some k ∧ x.2.1 = kV k) → ∃ ps : List (Key × Value), Paired MX xs ps ∧ ps.length = pv.length ∧ ∀ (i : Nat) (key v : Value), pv[i]? = some (key, v) → ∃ k, ps[i]? = some (k, v) ∧ (mixKind X.prog X.w).is k key = true := by
  induction h with
  | nil => exact fun _ => ⟨[], .nil, rfl, fun i key v q => by simp at q⟩
  | @cons x p l1 l2 r t ih =>
    intro hk
    obtain ⟨ps, h1, h2, h3⟩ := ih fun y hy => hk y (List.mem_cons_of_mem _ hy)
    obtain ⟨k, hq, hv⟩ := hk x List.mem_cons_self
    have r1 := r.1
    rw [hv] at r1
    refine ⟨(k, p.2) :: ps, .cons ⟨hq, hv, r.2⟩ h1, by simp [h2], fun i key v q => ?_⟩
    cases i with
    | zero =>
      simp only [List.getElem?_cons_zero, Option.some.injEq] at q
      subst q
      exact ⟨_, rfl, kV_is r1⟩
    | succ i =>
      simp only [List.getElem?_cons_succ] at q ⊢
      exact h3 i key v q
theorem tx_putAll : ∀ {xs ac : Xs} {ps as : List (NestedKey × Addr × Value)}, Paired TX xs ps → Paired TX ac as → Paired TX (putAll3 xs ac) (storedAllH as ps)
  | _, _, _, _, .nil, h => h
  | _, _, _, _, .cons (a := x) (b := p) r t, h => by
    have e := r.2.1
    refine tx_putAll (ac := put3 _ x.1 x.2.1 x.2.2) (as := storedH _ p.1 p.2.1 p.2.2) t ?_
    rw [e, ← r.1]
    exact tx_put h r.2.2
theorem mx_putAll : ∀ {xs ac : Xs} {ps as : List (Key × Value)}, Paired MX xs ps → Paired MX ac as → Paired MX (putAll3 xs ac) (merged as ps)
  | _, _, _, _, .nil, h => h
  | _, _, _, _, .cons (a := x) (b := p) r t, h => by
    have e := r.2.1
    refine mx_putAll (ac := put3 _ x.1 x.2.1 x.2.2) (as := stored _ p.1 p.2) t ?_
    rw [e]
    exact mx_put r.1 h r.2.2
theorem putAll3_len : ∀ (xs ac : Xs), (putAll3 xs ac).length ≤ ac.length + xs.length
  | [], ac => Nat.le_refl _
  | x :: xs, ac => by
    have h1 := putAll3_len xs (put3 ac x.1 x.2.1 x.2.2)
    have h2 := put3_len ac x.1 x.2.1 x.2.2
    have e : putAll3 (x :: xs) ac = putAll3 xs (put3 ac x.1 x.2.1 x.2.2) := rfl
    rw [e, List.length_cons]
    split at h2 <;> omega
theorem c_dictP (hu : X.A.units + 70 < cLine) (hc : X.calm = true) : CallS X S (.type "dict") .fresh gDictP := by
  intro pins s σ H xs us Q I r hw
  obtain ⟨G, ds, z, wf, rr, hz, k⟩ := hw
  match ds, hz with
  | [.lst ps], hz =>
    simp only [gDictP, Option.bind_eq_some_iff] at hz
    obtain ⟨kds, hp, hz⟩ := hz
    split at hz
    · rename_i ok
      simp only [Option.some.injEq] at hz
      subst hz
      obtain ⟨v, rfl, r1⟩ := rr.one
      obtain ⟨a, vs, rfl, h1, h2⟩ := r1.lst wf.gh
      rw [Vals.ref1 r]
      obtain ⟨its, n, rv, ho, hsz⟩ := I.lst h1
      obtain ⟨pv, xs, g1, g2, g3, g4⟩ := pairs_at I wf.gh ps kds vs its hp h2 rv
      have P := PairArg.list (prog := X.prog) (w := X.w) a its.toArray (tsOf its) pv
      have okA : PlainSeq "list" s.heap a its.toArray ∧ PairItems s.heap its.toArray (tsOf its) pv := ⟨⟨_, n, ho, rfl, rfl, rfl⟩, ⟨by simpa using g3, fun j k' v' hj => by
        obtain ⟨e1, e2⟩ := g4 j k' v' hj
        exact ⟨by simpa using e1, e2⟩⟩⟩
      have hxl : xs.length = kds.length := by simpa using congrArg List.length g1.keys
      have hpl : pv.length = xs.length := g2.length.symm
      have hpz : pv.length ≤ sizeLine := by rw [hpl, hxl]; exact ok.2
      have hz' : (putAll3 xs []).length ≤ sizeLine := by
        have := putAll3_len xs []
        simp only [List.length_nil, Nat.zero_add] at this
        omega
      have hS : (s.heap.objs.size == sysModules) = false := beq_eq_false_iff_ne.mpr (Nat.ne_of_gt I.big)
      have fin : ∀ h' tk, DObj X.w s.heap.objs.size (putAll3 xs []) h' → (∀ b o, s.heap.get? b = some o → h'.get? b = some o) → EP X pins σ Q (.ref s.heap.objs.size) { s with heap := h', toks := tk } := fun h' tk x' hk => by
        refine ⟨.ref s.heap.objs.size, _, I.laid (t' := tk) (o := DO X.w s.heap.objs.size (putAll3 xs [])) hk (Nat.le_refl _) ?_, rfl, k _ G _ (Ext.own wf I.fresh) ⟨_, rfl, I.fresh, wf.gh.free I.fresh, _, upd_same, Rpk.putAll g1 (by simp only [Rpk])⟩⟩
        have eo : ∃ o, h'.get? s.heap.objs.size = some o := by
          obtain ⟨_, _, _, o, _, _, e, _⟩ := x'
          exact ⟨o, e⟩
        refine ⟨x', eo, fun h1 h2 y hk => ?_⟩
        obtain ⟨z1, z2, z3, o, es, ep, e, c⟩ := y
        exact ⟨z1, z2, z3, o, es, ep, hk _ e, c⟩
      have okk := ok.1
      simp only [ksOk, Bool.or_eq_true] at okk
      have hkeys : ∀ x ∈ xs, x.1 ∈ kds.map (·.1) := fun x hx => by rw [← g1.keys]; exact List.mem_map.mpr ⟨x, hx, rfl⟩
      rcases okk with hk | hk
      · have ht : ∀ x ∈ xs, ktup x.1 = true := fun x hx => List.all_eq_true.mp hk _ (hkeys x hx)
        obtain ⟨ps', t1, t2, t3⟩ := tx_all g2 fun x hx => kp_tup (ht x hx) (g1.kf x hx)
        refine call_dict_pairsH (knd := nestedKind X.prog X.w) (ps := ps') P (I.ok.hd hc) (show X.A.units + 1 + 1 + 8 < cLine by omega) okA ⟨t2, t3⟩ ?_ hpz fun h' tk hd' hk' => ?_
        · intro h' hk' y hy
          obtain ⟨x, hx, tx⟩ := paired_mem t1 y hy
          have n0 := kp_is I wf.gh x.1 x.2.1 (.ref y.2.1) (g1.kf x hx) (by rw [tx.2.1]; rfl)
          obtain ⟨k0, _⟩ := y
          have hkt := ht x hx
          rw [tx.1] at n0 hkt
          cases k0 <;> simp only [ktup, Bool.false_eq_true, decide_eq_true_eq] at hkt
          exact nestedKind_stays.stays (fun b o vs n e _ => hk' b o (Nat.ne_of_lt (Heap.lt_size e)) (fun q => nomatch q) e) ⟨n0, hkt⟩
        · exact fin h' tk (tup_dobj hz' hS (tx_putAll t1 .nil) hd') fun b o e => hk' b o (fun q => nomatch q) e
      · have ht : ∀ x ∈ xs, ∃ p, kmix x.1 = some p := fun x hx => Option.isSome_iff_exists.mp (List.all_eq_true.mp hk _ (hkeys x hx))
        obtain ⟨ps', t1, t2, t3⟩ := mx_all (X := X) g2 fun x hx => let ⟨p, hp⟩ := ht x hx; ⟨p, hp, kp_mix hp (g1.kf x hx)⟩
        refine call_dict_pairs (knd := mixKind X.prog X.w) (kvs := ps') P (I.ok.hd hc) okA ⟨t2, t3⟩ hpz fun h' tk hd' hk' => ?_
        exact fin h' tk (mix_dobj hz' hS (mx_putAll t1 .nil) hd') fun b o e => hk' b o (fun q => nomatch q) e
    · cases hz
end
end PL

/-! PL17: the source of draws -/
namespace PL
open PySem PySem.Spec PyProof.Rows L2
def dS (c : Addr) (l m t : Int) : List (Key × V) := [(.inr "cells", .ref c), (.inr "left", .int l), (.inr "mixed", .int m), (.inr "turn", .int t)]
theorem dS_cells (c : Addr) (l m t : Int) : valV (dS c l m t) (.inr "cells") = some (.ref c) := by simp only [dS, valV]; rfl
theorem dS_left (c : Addr) (l m t : Int) : valV (dS c l m t) (.inr "left") = some (.int l) := by simp only [dS, valV]; rfl
theorem dS_mixed (c : Addr) (l m t : Int) : valV (dS c l m t) (.inr "mixed") = some (.int m) := by simp only [dS, valV]; rfl
theorem dS_turn (c : Addr) (l m t : Int) : valV (dS c l m t) (.inr "turn") = some (.int t) := by simp only [dS, valV]; rfl
theorem dS_pl (c : Addr) (l m t l' : Int) : putK (dS c l m t) (.inr "left") (.int l') = dS c l' m t := by simp only [dS, putK]; rfl
theorem dS_pt (c : Addr) (l m t l' : Int) : putK (dS c l m t) (.inr "turn") (.int l') = dS c l m l' := by simp only [dS, putK]; rfl
/-- the source stands at p -/
structure PAt (H : Hp) (p : Addr × Addr) (cells : List Int) (l m t : Int) : Prop where
  ne : p.1 ≠ p.2
  d : H p.1 = some (.dK (dS p.2 l m t))
  c : H p.2 = some (.lst (cells.map V.int))
  pos : ∀ c ∈ cells, 0 ≤ c
  len : cells.length ≤ 63
  l0 : 0 ≤ l
def But (p : Addr × Addr) (H H' : Hp) : Prop := ∀ b, b ≠ p.1 → b ≠ p.2 → H' b = H b
section
variable {p : Addr × Addr} {H H' : Hp} {cells : List Int} {l m t : Int}
theorem PAt.dk (x : PAt H p cells l m t) (l' t' : Int) (h : 0 ≤ l') : PAt (upd H p.1 (.dK (dS p.2 l' m t'))) p cells l' m t' :=
  ⟨x.ne, upd_same, by rw [upd_ne x.ne.symm]; exact x.c, x.pos, x.len, h⟩
theorem But.dk {o : HO} (b : But p H H') : But p H (upd H' p.1 o) := fun c h1 h2 => by rw [upd_ne h1]; exact b c h1 h2
theorem But.cc {o : HO} (b : But p H H') : But p H (upd H' p.2 o) := fun c h1 h2 => by rw [upd_ne h2]; exact b c h1 h2
theorem But.refl : But p H H := fun _ _ _ => rfl
theorem PAt.pop {cells : List Int} {x : Int} (a : PAt H p (cells ++ [x]) l m t) : PAt (upd H p.2 (.lst (cells.map V.int))) p cells l m t :=
  ⟨a.ne, by rw [upd_ne a.ne]; exact a.d, upd_same, fun c hc => a.pos c (List.mem_append_left _ hc), by have := a.len; simp at this; omega, a.l0⟩
end
theorem PAt.g_cells {p : Addr × Addr} {H : Hp} {cells : List Int} {l m t : Int} (x : PAt H p cells l m t) : DGet H p.1 (.str "cells") (some (.ref p.2)) := by
  have := DGet.k (k := .inr "cells") x.d
  rw [dS_cells] at this
  exact this
theorem PAt.g_left {p : Addr × Addr} {H : Hp} {cells : List Int} {l m t : Int} (x : PAt H p cells l m t) : DGet H p.1 (.str "left") (some (.int l)) := by
  have := DGet.k (k := .inr "left") x.d
  rw [dS_left] at this
  exact this
theorem PAt.g_mixed {p : Addr × Addr} {H : Hp} {cells : List Int} {l m t : Int} (x : PAt H p cells l m t) : DGet H p.1 (.str "mixed") (some (.int m)) := by
  have := DGet.k (k := .inr "mixed") x.d
  rw [dS_mixed] at this
  exact this
theorem PAt.g_turn {p : Addr × Addr} {H : Hp} {cells : List Int} {l m t : Int} (x : PAt H p cells l m t) : DGet H p.1 (.str "turn") (some (.int t)) := by
  have := DGet.k (k := .inr "turn") x.d
  rw [dS_turn] at this
  exact this
theorem dS_small (c : Addr) (l m t : Int) : (dS c l m t).length < sizeLine := by rw [sizeLine_eq]; show 4 < 16777216; omega
theorem PAt.p_left {p : Addr × Addr} {H : Hp} {cells : List Int} {l m t : Int} (x : PAt H p cells l m t) (l' : Int) : DPut H p.1 (.str "left") (.int l') (upd H p.1 (.dK (dS p.2 l' m t))) := by
  have := DPut.k (k := .inr "left") (v := .int l') x.d (dS_small ..)
  rw [dS_pl] at this
  exact this
theorem PAt.p_turn {p : Addr × Addr} {H : Hp} {cells : List Int} {l m t : Int} (x : PAt H p cells l m t) (l' : Int) : DPut H p.1 (.str "turn") (.int l') (upd H p.1 (.dK (dS p.2 l m l'))) := by
  have := DPut.k (k := .inr "turn") (v := .int l') x.d (dS_small ..)
  rw [dS_pt] at this
  exact this
theorem last_of {cells : List Int} (h : 0 < cells.length) : ∃ init x, cells = init ++ [x] := ⟨cells.dropLast, cells.getLast (by intro e; rw [e] at h; simp at h), (List.dropLast_concat_getLast _).symm⟩
/-- _law_pick -/
def spPick : SpM := fun vs H Q => ∃ p cells l m t most, vs = [.ref p.1, .int most] ∧ PAt H p cells l m t ∧ (most < 2 → Q (.int 0) H) ∧ (2 ≤ most → most.natAbs.log2 < 9000 ∧ ∀ i H' cells' l' t', 0 ≤ i → i < most → But p H H' → PAt H' p cells' l' m t' → Q (.int i) H')
end PL

/-! PL18: the law's helpers by meanings; the law's end -/
namespace PL
open PySem PySem.Spec PyProof.Rows L2
section
variable {X : Cx} {S : Src}
/-- the script, walked -/
def mScr (i : Nat) : Rho → M (List D) := fun ρ => match ρ[i]? with
  | some (.scr ns) => .ret (ns.map .int)
  | _ => .fail
theorem rps_ints {K : PySem.W.Frag} {w : World} {G : Hp} : ∀ ns : List Int, Rps K w G (ns.map D.int) (ns.map V.int)
  | [] => Rps.nil
  | n :: ns => Rps.cons rp_int (rps_ints ns)
theorem i_scr (i : Nat) {tg : Expr} {x : Str} {pos : Pos} (hN : X.N[i]? = some x := by rfl) (hv : Vis X.env.scope x := by first | exact Or.inl rfl | exact Or.inr (Or.inl rfl) | exact Or.inr (Or.inr rfl)) (hd : (x == ("__debug__" : Str)) = false := by decide)
    (hcd : (x == ("__classdict__" : Str)) = false := by decide) : PIm X S tg (.Name x pos) (mScr i) := by
  refine (pi_list (pe_var (i := i) hN hv hd hcd)).imp fun σ H R ⟨G0, H0, G, ρ, st, q⟩ => ?_
  unfold mScr at q
  cases e : ρ[i]? with
  | none => rw [e] at q; exact q.elim
  | some s =>
    rw [e] at q
    cases s with
    | scr ns =>
      obtain ⟨a, e1, hs⟩ := st.slots i _ e
      refine ⟨_, e1, a, rfl, ⟨_, sqL_same st.wf.gh hs⟩, q _ G H (Ext.refl st.wf) ⟨fun j G' H' s1 wf hj => ?_, fun j G' H' v H2 s1 wf hj hy => ?_, fun G' H' s1 wf => ?_⟩⟩
      · rw [List.length_map] at hj
        exact ⟨_, _, sqL_same wf.gh (sqL_same s1 hs), by rw [List.getElem?_map, List.getElem?_eq_getElem hj]; rfl⟩
      · obtain ⟨rfl, fv⟩ := hy
        rw [List.length_map] at hj
        have := fv _ (sqL_same wf.gh (sqL_same s1 hs))
        rw [List.getElem?_map, List.getElem?_eq_getElem hj] at this
        refine ⟨.int ns[j], G', by rw [List.getElem?_map, List.getElem?_eq_getElem hj]; rfl, Ext.refl wf, ?_⟩
        cases this
        exact rp_int
      · exact ⟨_, sqL_same wf.gh (sqL_same s1 hs), by simp⟩
    | _ => exact q.elim
end
/-! ### _law_pick by its meaning -/
def pickFn : List D → M D
  | [.int most] => if most < 2 then .ret (.int 0) else if most.natAbs.log2 < 9000 then .pick most.toNat fun i => .ret (.int i) else .fail
  | _ => .fail
section
variable {P : Program} {w : World} {K : PySem.W.Frag} {mg : Str → Option Value} {base : Heap}
theorem SrcAt.pat {S : Src} {H : Hp} {p : Addr × Addr} (h : SrcAt S H) (hp : S = some p) : ∃ cells l m t, PAt H p cells l m t := by
  obtain ⟨ne, cells, l, m, t, h1, h2, h3, h4, h5⟩ := h p hp
  exact ⟨cells, l, m, t, ⟨ne, h1, h2, h3, h4, h5⟩⟩
theorem PAt.ext {G H H' : Hp} {p : Addr × Addr} {cells : List Int} {l m t : Int} (wf : Wf (some p) G H) (b : But p H H') (a : PAt H' p cells l m t) : Ext (some p) G H G H' := by
  refine ⟨Same.refl _, ⟨fun c o e => ?_, fun q hq => ?_, wf.gs⟩, fun c o e n => ?_, fun c e n => absurd e n⟩
  · obtain ⟨g1, g2⟩ := wf.gs p rfl
    rw [b c (fun z => by rw [z, g1] at e; cases e) (fun z => by rw [z, g2] at e; cases e)]
    exact wf.gh c o e
  · cases hq
    exact ⟨a.ne, cells, l, m, t, a.d, a.c, a.pos, a.len, a.l0⟩
  · obtain ⟨n1, n2⟩ := n p rfl
    rw [b c n1 n2]
    exact e
theorem pick_fn {f : Addr} {fd : FuncData} {ps : List Str} {k : Nat} (F : FnG P w K mg base k f fd ps spPick) : FnM P w K mg base k f fd ps true 1 pickFn := F.imp fun vs H Q h => by
  obtain ⟨S, G, ds, ws, wf, hd, hs, hr, q⟩ := h
  obtain ⟨p, rfl, rfl⟩ := hs
  match ds, q with
  | [.int most], q =>
    simp only [Rps, Rp] at hr
    obtain ⟨v, r, rfl, rfl, rfl⟩ := hr
    obtain ⟨cells, l, m, t, pa⟩ := wf.src.pat rfl
    refine ⟨p, cells, l, m, t, most, rfl, pa, fun hm => ?_, fun hm => ?_⟩
    · rw [show pickFn [.int most] = .ret (.int 0) from by simp only [pickFn, if_pos hm]] at q
      exact q (.int 0) G H (Ext.refl wf) rp_int
    · have hm' : ¬ most < 2 := by omega
      by_cases hl : most.natAbs.log2 < 9000
      · rw [show pickFn [.int most] = .pick most.toNat fun i => .ret (.int i) from by simp only [pickFn, if_neg hm', if_pos hl]] at q
        refine ⟨hl, fun i H' cells' l' t' h0 h1 b a => ?_⟩
        have := q i.toNat (by omega)
        have e : ((i.toNat : Nat) : Int) = i := Int.toNat_of_nonneg h0
        simp only [wp, e] at this
        exact this (.int i) G H' (a.ext wf b) rp_int
      · rw [show pickFn [.int most] = .fail from by simp only [pickFn, if_neg hm', if_neg hl]] at q
        exact q.elim
/-- _law_source -/
def spSource (K : PySem.W.Frag) : SpM := fun vs H Q => ∃ (a : Addr) (ns : List Int), vs = [.ref a] ∧ SqL K H a (ns.map V.int) ∧ ns.length ≤ 63 ∧ ∀ p cells l m t H', PAt H' p cells l m t → Q (.ref p.1) H'
/-- law -/
def spLaw (K : PySem.W.Frag) : SpM := fun vs H Q => ∃ (a : Addr) (ns : List Int), vs = [.ref a] ∧ SqL K H a (ns.map V.int) ∧ ns.length ≤ 63 ∧ ∀ H', Q (.bl true) H'
theorem wf_scr (H : Hp) : Wf none H H := ⟨Same.refl _, (fun _ hp => nomatch hp), (fun _ hp => nomatch hp)⟩
theorem stk_scr {N : List Str} {H : Hp} {a : Addr} {ns : List Int} {n : Nat} (hs : SqL K H a (ns.map V.int)) (hn : N.length = n + 1) : Stk K w none H H H (.scr ns :: List.replicate n .no) (L2.start N [.ref a]) H := by
  refine ⟨(wf_scr H).src, Ext.refl (wf_scr H), ?_, fun i s e => ?_, fun i j d e' _ h1 _ => ?_⟩
  · simp [L2.start, hn]
  · cases i with
    | zero =>
      simp only [List.getElem?_cons_zero, Option.some.injEq] at e
      subst e
      exact ⟨a, by simp [L2.start], hs⟩
    | succ i =>
      simp only [List.getElem?_cons_succ] at e
      have := List.mem_of_getElem? e
      rw [List.mem_replicate] at this
      rw [this.2]
      trivial
  · exfalso
    cases i with
    | zero => simp at h1
    | succ i =>
      simp only [List.getElem?_cons_succ] at h1
      have := List.mem_of_getElem? h1
      rw [List.mem_replicate] at this
      cases this.2
/-- behind source = _law_source(script) -/
theorem stk_src {N : List Str} {H : Hp} {p : Addr × Addr} {a : Addr} {cells : List Int} {l m t : Int} {n : Nat} (pa : PAt H p cells l m t) (hn : N.length = n + 2) :
    Stk K w (some p) (fun _ => none) H (fun _ => none) (.no :: .src :: List.replicate n .no) ((L2.start N [.ref a]).set 1 (some (.ref p.1))) H := by
  have wf : Wf (some p) (fun _ => none) H := ⟨(fun b o e => nomatch e), fun q hq => by cases hq; exact ⟨pa.ne, cells, l, m, t, pa.d, pa.c, pa.pos, pa.len, pa.l0⟩, fun _ _ => ⟨rfl, rfl⟩⟩
  refine ⟨wf.src, Ext.refl wf, ?_, fun i s e => ?_, fun i j d e' _ h1 _ => ?_⟩
  · simp [L2.start, hn]
  · match i, e with
    | 0, e => simp at e; subst e; trivial
    | 1, e =>
      simp at e
      subst e
      exact ⟨p, rfl, by simp [L2.start, hn]⟩
    | i + 2, e =>
      simp only [List.getElem?_cons_succ] at e
      have := List.mem_of_getElem? e
      rw [List.mem_replicate] at this
      rw [this.2]
      trivial
  · exfalso
    match i, h1 with
    | 0, h1 => simp at h1
    | 1, h1 => simp at h1
    | i + 2, h1 =>
      simp only [List.getElem?_cons_succ] at h1
      have := List.mem_of_getElem? h1
      rw [List.mem_replicate] at this
      cases this.2
theorem pss_any {X : Cx} {rest : List Stmt} {m : Rho → M Out} (h : ∀ S, PBm X S rest m) : PSs X rest (fun E σ H => ∃ S, tS X.K X.w S m E σ H) :=
  ⟨fun pins s σ H E I ⟨S, q⟩ => (h S).run pins s σ H E I q⟩
/-- the law answers True, at every script -/
theorem law_true {m : Rho → M Out} {N : List Str} {H : Hp} {p : Addr × Addr} {a : Addr} {cells : List Int} {l mx t : Int} {n : Nat} {E : Ends} (pa : PAt H p cells l mx t) (hn : N.length = n + 2) (hE : ∀ H', E.rt (.bl true) H')
    (hm : wp (m (.no :: .src :: List.replicate n .no)) fun o => o = .rt (.bl true)) : ∃ S, tS K w S m E ((L2.start N [.ref a]).set 1 (some (.ref p.1))) H :=
  ⟨some p, _, _, _, _, stk_src pa hn, wp_mono hm fun o e => by
    subst e
    intro v G' H' _ r
    simp only [Rp] at r
    subst r
    exact hE H'⟩
end
/-! ### the row's end -/
/-- the law's call, from the law's promise where no guard stands -/
theorem end_law {P : Program} {w : World} {K : PySem.W.Frag} {mg mb : Str → Option Value} {k : Nat} {fa a : Addr} {fd : FuncData} {s₁ : Shared} {vs : List Value} {ns : List Int}
    (KX : K.In s₁.heap) (g1 : s₁.heap.Ns mainGlobals mg) (g2 : s₁.heap.Ns builtinsNs mb) (g3 : ∀ x : Str, x ≠ "__name__" → mb x = bootBuiltins x) (g4 : s₁.heap.NoLimit) (g5 : s₁.gens = #[])
    (sc : s₁.heap.get? a = some { cls := .type "list", data := .seq vs.toArray }) (hi : IntsAre vs ns) (hl : ns.length ≤ 63) (room : Room k callerA) (F : ∀ base : Heap, K.In base → base.Ns mainGlobals mg → FnG P w K mg base k fa fd ["script"] (spLaw K))
    (hb : ∀ (s : Shared) (u : Value), BindsTo s fd ⟨[u], []⟩ [("script", u)]) :
    codeAny (model P w) callerA (.call (.ref fa) ⟨[.ref a], []⟩) (fun r s' => r = .ok (.ret (.bool true)) ∧ OldK s₁.heap s'.heap ∧ s'.os = s₁.os ∧ AllBare s'.gens) s₁ := by
  have rv : Vals (ns.map V.int) vs := vals_ints hi
  have lv : ns.length = vs.length := hi.length.symm
  have lz : (ns.map V.int).length ≤ sizeLine := by rw [List.length_map, sizeLine_eq]; omega
  suffices go : ∀ H : Hp, (∀ b u, H b = some u → b = a ∧ u = .frz { cls := .type "list", data := .seq vs.toArray } (.lst (ns.map V.int)) ∧ K.lookup a = none) → SqL K H a (ns.map V.int) → codeAny (model P w) callerA (.call (.ref fa) ⟨[.ref a], []⟩) (fun r s' => r = .ok (.ret (.bool true)) ∧ OldK s₁.heap s'.heap ∧ s'.os = s₁.os ∧ AllBare s'.gens) s₁ by
    cases e : K.lookup a with
    | some o =>
      have e2 := (KX a o e).symm.trans sc
      cases e2
      exact go (fun _ => none) (fun _ _ z => nomatch z) (.inr ⟨_, vs.toArray, _, e, rfl, rfl, rfl, by rw [List.size_toArray, ← lv, ← List.length_map (f := V.int)]; exact lz, by simpa using rv⟩)
    | none =>
      refine go (upd (fun _ => none) a (.frz { cls := .type "list", data := .seq vs.toArray } (.lst (ns.map V.int)))) (fun b u z => ?_) (.inl (.inr ⟨_, upd_same⟩))
      by_cases hba : b = a
      · subst hba
        rw [upd_same] at z
        cases z
        exact ⟨rfl, rfl, e⟩
      · rw [upd_ne hba] at z
        cases z
  intro H only hs
  have free : ∀ {b : Addr} {o : Obj}, s₁.heap.get? b = some o → (∀ xs n, o.data ≠ .seq xs n) → H b = none := fun {b o} e nd => by
    cases z : H b with
    | none => rfl
    | some u =>
      obtain ⟨rfl, _⟩ := only b u z
      rw [sc] at e
      cases e
      exact absurd rfl (nd _ _)
  have ns' : ∀ {b : Addr} {m : Str → Option Value}, s₁.heap.Ns b m → (hidT s₁.heap H).Ns b m := fun {b m} ⟨o, es, ep, e, d, r⟩ => ⟨o, es, ep, hidT_get e (free e fun xs n z => by rw [d] at z; cases z), d, r⟩
  have kin : K.In (hidT s₁.heap H) := fun b o e => hidT_get (KX b o e) (by
    cases z : H b with
    | none => rfl
    | some u =>
      obtain ⟨rfl, _, n⟩ := only b u z
      rw [n] at e
      cases e)
  have hok : HOk P w H s₁.heap := fun b u z => by
    obtain ⟨rfl, rfl, _⟩ := only b u z
    exact ⟨sc, lz, vs, _, rv, sc⟩
  have env : Env0 P w K mg (hidT s₁.heap H) callerA [] s₁ H := by
    refine { frames := rfl, mod := ⟨kin, ns' g1, ⟨mb, ns' g2, g3⟩, ?_⟩, bs := fun b o e => of_hidT e, bsz := Nat.le_of_eq (hidT_size _ _), funs := trivial, frf := (fun b q => nomatch q), hok := hok, bare := AllBare.of_eq g5 }
    obtain ⟨mc, h1, h2⟩ := g4
    exact ⟨mc, ns' h1, h2⟩
  refine codeAny_mono ((F _ kin (ns' g1)).go callerA [] s₁ H ⟨[.ref a], []⟩ [.ref a] [.ref a] (fun v _ => v = .bl true) room rfl env (hb s₁ (.ref a)) (.cons rfl .nil) ⟨a, ns, rfl, hs, hl, fun _ => rfl⟩) fun r s' h => ?_
  match r, h with
  | .error _, h => exact h.elim
  | .ok .next, h => exact h.elim
  | .ok .brk, h => exact h.elim
  | .ok .cont, h => exact h.elim
  | .ok (.ret u), h =>
    obtain ⟨v, H', e1, e2, un, hok', rv', ev⟩ := h
    have ev' : v = .bl true := ev
    rw [ev'] at rv'
    have eu : u = Value.bool true := rv'
    rw [eu]
    refine ⟨rfl, OldK.of_keep fun b o e => ?_, e1, e2⟩
    cases z : H b with
    | none => exact un.keep b o e z (fun q => nomatch (show b ∈ ([] : List Addr) from q)) (fun q => nomatch q)
    | some u =>
      obtain ⟨rfl, rfl, _⟩ := only b u z
      have z2 := hok' b _ (un.frzs b _ _ z)
      rw [sc] at e
      cases e
      exact z2.1
/-- the goal that k_head leaves -/
theorem end_row {l : PySem.W.OpenLaw} {k : Nat} {q : Program} {loose : List Str} {XP : (Str → Option Value) → Heap → Prop} {YP : World → Heap → Prop} {d : DefRec} {K : Params → PySem.W.Frag}
    (hn : l.most = some 63) (hdf : d.params.defaults = []) (room : Room k callerA) (hY : ∀ (w : World) (h : Heap), YP w h → (K w.params).In h)
    (F : ∀ (w : World) (mg : Str → Option Value) (fa : Addr) (h : Heap), (K w.params).In h → h.Ns mainGlobals mg → mg d.name = some (.ref fa) →
      ∃ fd : FuncData, (∀ (s : Shared) (u : Value), BindsTo s fd ⟨[u], []⟩ [("script", u)]) ∧ ∀ base : Heap, (K w.params).In base → base.Ns mainGlobals mg → FnG l.prog w (K w.params) mg base k fa fd ["script"] (spLaw (K w.params))) :
    PySem.W.WalkO q loose XP YP l.row.toRowW d [] (fun f vs => PySem.call f vs) :=
  Att.attach_call hn hdf fun w s₀ s₁ mg mb fa o pm cd doc a vs ns Gr Y ho hd hcd hmg hobj hints hlen hg => by
    obtain ⟨fd, hb, hF⟩ := F w mg fa _ (hY w _ Y) Gr.T.g hmg
    exact end_law (hY w _ Y) Gr.T.g Gr.T.b Gr.T.builtins Gr.T.nolimit hg hobj hints hlen room hF hb
end PL
namespace PL
open PySem PySem.Spec PyProof.Rows L2
def seqOf' : D → Option (List D)
  | .tup xs => some xs
  | .lst xs => some xs
  | _ => none
/-- _law_mixed, by its meaning: the things in any order -/
def mixFn : List D → M D
  | [d] => match seqOf' d with
    | some ds => if ds.length ≤ 100000 then .any (fun r => ∃ rs, r = .lst rs ∧ rs.Perm ds) .ret else .fail
    | none => .fail
  | _ => .fail
theorem log_small {n : Nat} (h : n ≤ 100000) : (n : Int).natAbs.log2 < 9000 := by
  rw [Int.natAbs_natCast]
  by_cases h0 : n = 0
  · subst h0
    decide
  · have := (Nat.log2_lt h0 (k := 17)).mpr (by omega)
    omega
theorem cut_perm {α : Type} : ∀ (xs : List α) (i : Nat) (h : i < xs.length), (xs[i] :: xs.eraseIdx i).Perm xs
  | [], _, h => absurd h (Nat.not_lt_zero _)
  | x :: xs, 0, _ => List.Perm.refl _
  | x :: xs, i + 1, h => by
    have ih := cut_perm xs i (Nat.lt_of_succ_lt_succ h)
    simp only [List.getElem_cons_succ, List.eraseIdx_cons_succ]
    exact (List.Perm.swap x _ _).trans (List.Perm.cons x ih)
theorem perm_cut {α : Type} {xs ys : List α} {i : Nat} {x : α} {acc : List α} (hx : xs[i]? = some x) (h : (acc ++ xs).Perm ys) : ((acc ++ [x]) ++ xs.eraseIdx i).Perm ys := by
  refine List.Perm.trans ?_ h
  rw [List.append_assoc]
  refine List.Perm.append_left acc ?_
  obtain ⟨hi, e⟩ := List.getElem?_eq_some_iff.mp hx
  subst e
  exact cut_perm xs i hi
end PL
namespace PL
open PySem PySem.Spec PyProof.Rows L2
theorem Rps.perm {K : PySem.W.Frag} {w : World} {G : Hp} {vs us : List V} (h : us.Perm vs) : ∀ {ds : List D}, Rps K w G ds vs → ∃ es : List D, es.Perm ds ∧ Rps K w G es us := by
  induction h with
  | nil => exact fun r => ⟨_, List.Perm.refl _, r⟩
  | cons x h ih =>
    intro ds r
    cases ds with
    | nil => simp [Rps] at r
    | cons d ds =>
      simp only [Rps] at r
      obtain ⟨v, t, e, r1, r2⟩ := r
      injection e with e1 e2
      subst e1 e2
      obtain ⟨es, p, q⟩ := ih r2
      exact ⟨d :: es, List.Perm.cons d p, Rps.cons r1 q⟩
  | swap x y l =>
    intro ds r
    match ds, r with
    | [], r => simp [Rps] at r
    | [_], r => simp [Rps] at r
    | a :: b :: ds, r =>
      simp only [Rps] at r
      obtain ⟨v, t, e, r1, v2, t2, e2, r2, r3⟩ := r
      injection e with e1 e3
      subst e1 e3
      injection e2 with e1 e3
      subst e1 e3
      exact ⟨b :: a :: ds, List.Perm.swap a b ds, Rps.cons r2 (Rps.cons r1 r3)⟩
  | trans h1 h2 ih1 ih2 =>
    intro ds r
    obtain ⟨es, p, q⟩ := ih2 r
    obtain ⟨fs, p2, q2⟩ := ih1 q
    exact ⟨fs, p2.trans p, q2⟩
end PL

/-! PL19: how meanings are computed -/
namespace PL
open PySem PySem.Spec PyProof.Rows L2
theorem ret_bind {α β : Type} (a : α) (f : α → M β) : (M.ret a).bind f = f a := rfl
theorem wp_eq {α : Type} {m : M α} {a : α} {Q : α → Prop} (h : m = .ret a) (q : Q a) : wp m Q := by rw [h]; exact q
theorem opt_some {α : Type} (a : α) : M.opt (some a) = M.ret a := rfl
theorem wp_seq {a b : Rho → M Out} {ρ : Rho} {Q : Out → Prop} (h : wp (a ρ) fun o => ∃ ρ', o = .nx ρ' ∧ wp (b ρ') Q) : wp (mSeq a b ρ) Q := by
  refine wp_bind.mpr (wp_mono h fun o ⟨ρ', e, q⟩ => ?_)
  subst e
  exact q
theorem seq_nx {a b : Rho → M Out} {ρ ρ' : Rho} (h : a ρ = .ret (.nx ρ')) : mSeq a b ρ = b ρ' := by
  unfold mSeq
  rw [h]
  rfl
theorem seq_rt {a b : Rho → M Out} {ρ : Rho} {d : D} (h : a ρ = .ret (.rt d)) : mSeq a b ρ = .ret (.rt d) := by
  unfold mSeq
  rw [h]
  rfl
theorem set_ret {i : Nat} {m : Rho → M D} {ρ : Rho} {d : D} (h : m ρ = .ret d) : mSet i m ρ = .ret (.nx (ρ.set i (.val d))) := by
  unfold mSet
  rw [h]
  rfl
theorem own_ret {i : Nat} {m : Rho → M D} {ρ : Rho} {d : D} (h : m ρ = .ret d) : mOwn i m ρ = .ret (.nx (ρ.set i (.own d))) := by
  unfold mOwn
  rw [h]
  rfl
theorem ret_ret {m : Rho → M D} {ρ : Rho} {d : D} (h : m ρ = .ret d) : mRet m ρ = .ret (.rt d) := by
  unfold mRet
  rw [h]
  rfl
theorem if_t {c : Rho → M Bool} {a b : Rho → M Out} {ρ : Rho} (h : c ρ = .ret true) : mIfS c a b ρ = a ρ := by
  unfold mIfS
  rw [h]
  rfl
theorem if_f {c : Rho → M Bool} {a b : Rho → M Out} {ρ : Rho} (h : c ρ = .ret false) : mIfS c a b ρ = b ρ := by
  unfold mIfS
  rw [h]
  rfl
/-- a loop, by what holds ahead of each turn -/
theorem wp_for {g : Tgt} {body : Rho → M Out} {Q : Out → Prop} (Pv : List D → Rho → Prop) (step : ∀ d ds ρ, Pv (d :: ds) ρ → ∃ ρ1, g d ρ = some ρ1 ∧ wp (body ρ1) fun o => match o with
      | .nx ρ2 => Pv ds ρ2
      | .ct ρ2 => Pv ds ρ2
      | .bk ρ2 => Q (.nx ρ2)
      | .rt d => Q (.rt d)) (stop : ∀ ρ, Pv [] ρ → Q (.nx ρ)) : ∀ (ds : List D) (ρ : Rho), Pv ds ρ → wp (forM g body ds ρ) Q
  | [], ρ, h => stop ρ h
  | d :: ds, ρ, h => by
    obtain ⟨ρ1, e, q⟩ := step d ds ρ h
    unfold forM
    rw [e, opt_some, ret_bind]
    refine wp_bind.mpr (wp_mono q fun o q2 => ?_)
    cases o with
    | nx ρ2 => exact wp_for Pv step stop ds ρ2 q2
    | ct ρ2 => exact wp_for Pv step stop ds ρ2 q2
    | bk ρ2 => exact q2
    | rt d => exact q2
/-- a loop that only counts on -/
theorem for_fold {α : Type} {g : Tgt} {body : Rho → M Out} (ro : α → Rho) (step : α → D → α) : ∀ (ds : List D) (a : α), (∀ a d, d ∈ ds → ∃ ρ1, g d (ro a) = some ρ1 ∧ (body ρ1 = .ret (.nx (ro (step a d))) ∨ body ρ1 = .ret (.ct (ro (step a d))))) → forM g body ds (ro a) = .ret (.nx (ro (ds.foldl step a)))
  | [], a, _ => rfl
  | d :: ds, a, h => by
    obtain ⟨ρ1, e, q⟩ := h a d List.mem_cons_self
    unfold forM
    rw [e, opt_some, ret_bind]
    have ih := for_fold ro step ds (step a d) fun a' d' hd => h a' d' (List.mem_cons_of_mem _ hd)
    rcases q with q | q
    · rw [q, ret_bind]
      exact ih
    · rw [q, ret_bind]
      exact ih
/-- comprehensions -/
theorem wp_acc {g : Tgt} {me : Rho → M D} {ρw : Rho} (R : D → D → Prop) : ∀ (ds acc : List D) (Q : List D → Prop), acc.length + ds.length ≤ sizeLine → (∀ d ∈ ds, ∃ ρ1, g d ρw = some ρ1 ∧ wp (me ρ1) (R d)) → (∀ rs, Paired R ds rs → Q (acc ++ rs)) → wp (accM (turn1 g mYes me ρw) ds acc) Q
  | [], acc, Q, _, _, k => by
    have := k [] .nil
    rw [List.append_nil] at this
    exact this
  | d :: ds, acc, Q, hl, h, k => by
    obtain ⟨ρ1, e, q⟩ := h d List.mem_cons_self
    rw [List.length_cons] at hl
    unfold accM turn1
    rw [e, opt_some, ret_bind]
    refine wp_bind.mpr ?_
    show wp (pushM me ρ1 acc) _
    unfold pushM
    refine wp_bind.mpr (wp_mono q fun r hr => ?_)
    rw [if_pos (show acc.length < sizeLine by omega)]
    refine wp_acc R ds (acc ++ [r]) Q (by simp; omega) (fun d' hd => h d' (List.mem_cons_of_mem _ hd)) fun rs hp => ?_
    rw [List.append_assoc]
    exact k (r :: rs) (.cons hr hp)
theorem turn1_yes {g : Tgt} {mt : Rho → M Bool} {me : Rho → M D} {ρw ρ1 : Rho} {d y : D} {acc : List D} (e : g d ρw = some ρ1) (h : mt ρ1 = .ret true) (q : me ρ1 = .ret y) (hl : acc.length < sizeLine) : turn1 g mt me ρw d acc = .ret (acc ++ [y]) := by
  unfold turn1 pushM
  rw [e, opt_some, ret_bind, h, ret_bind, if_pos rfl, q, ret_bind, if_pos hl]
theorem turn1_no {g : Tgt} {mt : Rho → M Bool} {me : Rho → M D} {ρw ρ1 : Rho} {d : D} {acc : List D} (e : g d ρw = some ρ1) (h : mt ρ1 = .ret false) : turn1 g mt me ρw d acc = .ret acc := by
  unfold turn1
  rw [e, opt_some, ret_bind, h, ret_bind, if_neg Bool.false_ne_true]
theorem acc_cons {turn : D → List D → M (List D)} {d : D} {ds acc a2 : List D} (h : turn d acc = .ret a2) : accM turn (d :: ds) acc = accM turn ds a2 := by
  show (turn d acc).bind _ = _
  rw [h]
  rfl
theorem acc_filter {g : Tgt} {mt : Rho → M Bool} {me : Rho → M D} {ρw : Rho} (t : D → Bool) (f : D → D) : ∀ (ds acc : List D), acc.length + ds.length ≤ sizeLine → (∀ d ∈ ds, ∃ ρ1, g d ρw = some ρ1 ∧ mt ρ1 = .ret (t d) ∧ (t d = true → me ρ1 = .ret (f d))) →
    accM (turn1 g mt me ρw) ds acc = .ret (acc ++ (ds.filter t).map f)
  | [], acc, _, _ => by simp [accM]
  | d :: ds, acc, hl, h => by
    obtain ⟨ρ1, e, q, q2⟩ := h d List.mem_cons_self
    rw [List.length_cons] at hl
    by_cases ht : t d = true
    · rw [ht] at q
      rw [acc_cons (turn1_yes e q (q2 ht) (by omega)), acc_filter t f ds (acc ++ [f d]) (by simp; omega) fun d' hd => h d' (List.mem_cons_of_mem _ hd)]
      simp [ht]
    · have hf : t d = false := by simpa using ht
      rw [hf] at q
      rw [acc_cons (turn1_no e q), acc_filter t f ds acc (by omega) fun d' hd => h d' (List.mem_cons_of_mem _ hd)]
      simp [hf]
theorem acc_map {g : Tgt} {me : Rho → M D} {ρw : Rho} (f : D → D) (ds acc : List D) (hl : acc.length + ds.length ≤ sizeLine) (h : ∀ d ∈ ds, ∃ ρ1, g d ρw = some ρ1 ∧ me ρ1 = .ret (f d)) : accM (turn1 g mYes me ρw) ds acc = .ret (acc ++ ds.map f) := by
  rw [acc_filter (mt := mYes) (fun _ => true) f ds acc hl fun d hd => let ⟨ρ1, e, q⟩ := h d hd; ⟨ρ1, e, rfl, fun _ => q⟩, List.filter_eq_self.mpr fun _ _ => rfl]
/-- a comprehension that draws nothing -/
theorem comp_filter {vs : List Nat} {g : Tgt} {mi : Rho → M (List D)} {mt : Rho → M Bool} {me : Rho → M D} {ρ : Rho} {ds : List D} (t : D → Bool) (f : D → D) (hi : mi ρ = .ret ds) (hl : ds.length ≤ sizeLine) (h : ∀ d ∈ ds, ∃ ρ1, g d (wipeE ρ vs) = some ρ1 ∧ mt ρ1 = .ret (t d) ∧ (t d = true → me ρ1 = .ret (f d))) :
    mComp vs g mi mt me ρ = .ret (.lst ((ds.filter t).map f)) := by
  unfold mComp
  rw [hi, ret_bind, acc_filter t f ds [] (by simpa using hl) h, ret_bind, List.nil_append]
theorem comp_map {vs : List Nat} {g : Tgt} {mi : Rho → M (List D)} {me : Rho → M D} {ρ : Rho} {ds : List D} (f : D → D) (hi : mi ρ = .ret ds) (hl : ds.length ≤ sizeLine) (h : ∀ d ∈ ds, ∃ ρ1, g d (wipeE ρ vs) = some ρ1 ∧ me ρ1 = .ret (f d)) :
    mComp vs g mi mYes me ρ = .ret (.lst (ds.map f)) := by
  unfold mComp
  rw [hi, ret_bind, acc_map f ds [] (by simpa using hl) h, ret_bind, List.nil_append]
theorem for_ret {g : Tgt} {mi : Rho → M (List D)} {body : Rho → M Out} {ρ : Rho} {ds : List D} {r : M Out} (hi : mi ρ = .ret ds) (h : forM g body ds ρ = r) : mFor g mi body ρ = r := by
  unfold mFor
  rw [hi]
  exact h
theorem cons_ret {m : Rho → M D} {r : Rho → M (List D)} {ρ : Rho} {x : D} {xs : List D} (h1 : m ρ = .ret x) (h2 : r ρ = .ret xs) : aCons m r ρ = .ret (x :: xs) := by
  unfold aCons
  rw [h1, ret_bind, h2]
  rfl
theorem call_ret {g : List D → Option D} {r : Rho → M (List D)} {ρ : Rho} {xs : List D} {d : D} (h : r ρ = .ret xs) (hg : g xs = some d) : mCall g r ρ = .ret d := by
  unfold mCall
  rw [h, ret_bind, hg]
  rfl
theorem op_ret {g : D → D → Option D} {a b : Rho → M D} {ρ : Rho} {x y z : D} (h1 : a ρ = .ret x) (h2 : b ρ = .ret y) (hg : g x y = some z) : mOp g a b ρ = .ret z := by
  unfold mOp
  rw [h1, ret_bind, h2, ret_bind, hg]
  rfl
theorem b_ret {m : Rho → M D} {ρ : Rho} {b : Bool} (h : m ρ = .ret (.bl b)) : mB m ρ = .ret b := by
  unfold mB
  rw [h]
  rfl
theorem fn_ret {n : Nat} {fn : List D → M D} {r : Rho → M (List D)} {ρ : Rho} {ds : List D} {x : M D} (h : r ρ = .ret ds) (hn : ds.length = n) (hf : fn ds = x) : mFn n fn r ρ = x := by
  unfold mFn
  rw [h, ret_bind, if_pos hn, hf]
theorem fnOf_ret {src : Bool} {n : Nat} {m : Rho → M Out} {ds : List D} {d : D} (h : m (rho0 src n ds) = .ret (.rt d)) : fnOf src n m ds = .ret d := by
  unfold fnOf
  rw [h]
  rfl
theorem for_cons {g : Tgt} {body : Rho → M Out} {d : D} {ds : List D} {ρ ρ1 ρ2 : Rho} (e : g d ρ = some ρ1) (h : body ρ1 = .ret (.nx ρ2)) : forM g body (d :: ds) ρ = forM g body ds ρ2 := by
  show (M.opt (g d ρ)).bind _ = _
  rw [e, opt_some, ret_bind, h, ret_bind]
end PL

/-! PL20: -x; x in y; parallel assignments -/
namespace PL
open PySem PySem.Spec PyProof.Rows L2
section
variable {X : Cx} {S : Src}
def mNeg (m : Rho → M D) : Rho → M D := fun ρ => (m ρ).bind fun d => match d with
  | .int i => .ret (.int (-i))
  | _ => .fail
theorem x_neg {a : Expr} {pos : Pos} {m : Rho → M D} (ha : PEm X S a m) : PEm X S (.UnaryOp .USub a pos) (mNeg m) :=
  (pe_un un_neg ha).imp fun σ H Q ⟨G0, H0, G, ρ, st, q⟩ => ⟨G0, H0, G, ρ, st, wp_mono (wp_bind.mp q) fun d q1 v G1 H1 e1 r1 => by
    cases d with
    | int i =>
      have r1' : Rp X.K X.w G1 (.int i) v := r1
      simp only [Rp] at r1'
      exact ⟨i, r1', q1 _ G1 H1 e1 res_int⟩
    | _ => exact q1.elim⟩
end
theorem bk_ok {N : List Str} {sc scope : Scope} {own : List (Str × Nat)} (h : blkC N sc scope own = true) : BlkOk N sc scope own := blkOk_by h
/-! ### slots that are not read again -/
theorem Stk.drop {K : PySem.W.Frag} {w : World} {S : Src} {G0 H0 G H : Hp} {ρ : Rho} {σ : L2.St} (h : Stk K w S G0 H0 G ρ σ H) (i : Nat) : Stk K w S G0 H0 G (ρ.set i .no) σ H where
  src0 := h.src0
  ext := h.ext
  len := by rw [List.length_set]; exact h.len
  slots := fun j s hs => by
    rcases get_set hs with ⟨_, e2, _⟩ | ⟨_, e2⟩
    · subst e2
      trivial
    · exact h.slots j s e2
  apart := fun a b d1 d2 hn h1 h2 => by
    rcases get_set h1 with ⟨_, e2, _⟩ | ⟨_, e2⟩
    · cases e2
    · rcases get_set h2 with ⟨_, e4, _⟩ | ⟨_, e4⟩
      · cases e4
      · exact h.apart a b d1 d2 hn e2 e4
theorem Stk.kill {K : PySem.W.Frag} {w : World} {S : Src} {G0 H0 G H : Hp} {ρ : Rho} {σ : L2.St} (h : Stk K w S G0 H0 G ρ σ H) : ∀ vs : List Nat, Stk K w S G0 H0 G (wipeE ρ vs) σ H
  | [] => h
  | v :: vs => (Stk.kill h vs).drop v
def mKill (vs : List Nat) (m : Rho → M Out) : Rho → M Out := fun ρ => m (wipeE ρ vs)
theorem s_kill (vs : List Nat) {X : Cx} {S : Src} {st : List Stmt} {m : Rho → M Out} (h : PBm X S st m) : PBm X S st (mKill vs m) :=
  h.imp fun E σ H ⟨G0, H0, G, ρ, st, q⟩ => ⟨G0, H0, G, _, st.kill vs, q⟩
/-! ### draws -/
theorem wp_pick {i : Nat} {r : Rho → M (List D)} {ρ : Rho} {most : Int} {Q : D → Prop} (hs : ρ[i]? = some .src) (hr : r ρ = .ret [.int most]) (hm : most.natAbs.log2 < 9000) (h : ∀ j : Int, 0 ≤ j → (j < most ∨ j = 0) → Q (.int j)) : wp (mFnS i 1 pickFn r ρ) Q := by
  unfold mFnS
  rw [hs]
  show wp ((r ρ).bind _) Q
  rw [hr]
  show wp (if most < 2 then M.ret (D.int 0) else if most.natAbs.log2 < 9000 then .pick most.toNat fun i => .ret (.int i) else .fail) Q
  split
  · exact h 0 (Int.le_refl 0) (.inr rfl)
  · intro k hk
    exact h (k : Int) (Int.natCast_nonneg k) (.inl (by omega))
theorem wp_mix {i : Nat} {r : Rho → M (List D)} {ρ : Rho} {d : D} {ds : List D} {Q : D → Prop} (hs : ρ[i]? = some .src) (hr : r ρ = .ret [d]) (hd : seqOf' d = some ds) (hl : ds.length ≤ 100000) (h : ∀ rs : List D, rs.Perm ds → Q (.lst rs)) : wp (mFnS i 1 mixFn r ρ) Q := by
  unfold mFnS
  rw [hs]
  show wp ((r ρ).bind _) Q
  rw [hr]
  have e : mixFn [d] = .any (fun r => ∃ rs, r = .lst rs ∧ rs.Perm ds) .ret := by simp only [mixFn, hd, if_pos hl]
  show wp (mixFn [d]) Q
  rw [e]
  rintro _ ⟨rs, rfl, hp⟩
  exact h rs hp
theorem wp_set {i : Nat} {m : Rho → M D} {ρ : Rho} {Q : Out → Prop} (h : wp (m ρ) fun d => Q (.nx (ρ.set i (.val d)))) : wp (mSet i m ρ) Q := wp_bind.mpr h
theorem wp_op {g : D → D → Option D} {a b : Rho → M D} {ρ : Rho} {Q : D → Prop} (h : wp (a ρ) fun x => wp (b ρ) fun y => ∃ z, g x y = some z ∧ Q z) : wp (mOp g a b ρ) Q :=
  wp_bind.mpr (wp_mono h fun x h1 => wp_bind.mpr (wp_mono h1 fun y h2 => wp_opt.mpr h2))
theorem wp_cons {m : Rho → M D} {r : Rho → M (List D)} {ρ : Rho} {Q : List D → Prop} (h : wp (m ρ) fun x => wp (r ρ) fun xs => Q (x :: xs)) : wp (aCons m r ρ) Q :=
  wp_bind.mpr (wp_mono h fun x h1 => wp_bind.mpr h1)
theorem wp_call {g : List D → Option D} {r : Rho → M (List D)} {ρ : Rho} {Q : D → Prop} (h : wp (r ρ) fun xs => ∃ z, g xs = some z ∧ Q z) : wp (mCall g r ρ) Q := wp_bind.mpr (wp_mono h fun x h1 => wp_opt.mpr h1)
theorem wp_fnS {i n : Nat} {fn : List D → M D} {r : Rho → M (List D)} {ρ : Rho} {Q : D → Prop} (hs : ρ[i]? = some .src) (h : wp (r ρ) fun ds => ds.length = n ∧ wp (fn ds) Q) : wp (mFnS i n fn r ρ) Q := by
  unfold mFnS
  rw [hs]
  refine wp_bind.mpr (wp_mono h fun ds h1 => ?_)
  rw [if_pos h1.1]
  exact h1.2
theorem wp_fnOf {src : Bool} {n : Nat} {m : Rho → M Out} {ds : List D} {Q : D → Prop} (h : wp (m (rho0 src n ds)) fun o => ∃ d, o = .rt d ∧ Q d) : wp (fnOf src n m ds) Q :=
  wp_bind.mpr (wp_mono h fun o ⟨d, e, q⟩ => by subst e; exact q)
theorem wp_retS {m : Rho → M D} {ρ : Rho} {Q : Out → Prop} (h : wp (m ρ) fun d => Q (.rt d)) : wp (mRet m ρ) Q := wp_bind.mpr h
/-- what answers at once with the next statement -/
def isNx (n : Nat) (m : M Out) : Bool := match m with
  | .ret (.nx (.no :: .src :: xs)) => decide (xs.length = n)
  | _ => false
theorem isNx_ok {n : Nat} {m : M Out} (h : isNx n m = true) : ∃ xs, m = .ret (.nx (.no :: .src :: xs)) ∧ xs.length = n := by
  unfold isNx at h
  split at h
  · exact ⟨_, rfl, of_decide_eq_true h⟩
  · cases h
end PL

namespace R48
open PySem PySem.Spec PyProof.Rows L2 PL
-- facts
def topS (i : Nat) : Stmt := PySem.Challenge.pw_restsadded_k48_whole_top_numbers.main.body.getD i (.Pass ⟨0, 0, 0, 0⟩)
abbrev stop_number : Stmt := topS 1
abbrev stold_powers : Stmt := topS 2
abbrev s_law_source : Stmt := topS 4
abbrev s_law_pick : Stmt := topS 5
abbrev s_law_of : Stmt := topS 6
abbrev s_law_mixed : Stmt := topS 7
abbrev s_law_product : Stmt := topS 8
abbrev s_law_top : Stmt := topS 9
abbrev slaw : Stmt := topS 10
structure Facts (K : PySem.W.Frag) (mg : Str → Option Value) where
  z_abs : mg "abs" = none
  z_dict : mg "dict" = none
  z_int : mg "int" = none
  z_isinstance : mg "isinstance" = none
  z_len : mg "len" = none
  z_list : mg "list" = none
  z_min : mg "min" = none
  z_range : mg "range" = none
  z_repr : mg "repr" = none
  z_sum : mg "sum" = none
  z_tuple : mg "tuple" = none
  z_zip : mg "zip" = none
  ftop_number : Addr
  dtop_number : FuncData
  Ftop_number : Fun K "top_number" "top_number" stop_number ftop_number dtop_number
  btop_number : L2.Binds K dtop_number ["t"] []
  gtop_number : mg "top_number" = some (.ref ftop_number)
  ftold_powers : Addr
  dtold_powers : FuncData
  Ftold_powers : Fun K "told_powers" "told_powers" stold_powers ftold_powers dtold_powers
  btold_powers : L2.Binds K dtold_powers ["p", "k", "h"] []
  gtold_powers : mg "told_powers" = some (.ref ftold_powers)
  f_law_source : Addr
  d_law_source : FuncData
  F_law_source : Fun K "_law_source" "_law_source" s_law_source f_law_source d_law_source
  b_law_source : L2.Binds K d_law_source ["script"] []
  g_law_source : mg "_law_source" = some (.ref f_law_source)
  f_law_pick : Addr
  d_law_pick : FuncData
  F_law_pick : Fun K "_law_pick" "_law_pick" s_law_pick f_law_pick d_law_pick
  b_law_pick : L2.Binds K d_law_pick ["source", "most"] []
  g_law_pick : mg "_law_pick" = some (.ref f_law_pick)
  f_law_of : Addr
  d_law_of : FuncData
  F_law_of : Fun K "_law_of" "_law_of" s_law_of f_law_of d_law_of
  b_law_of : L2.Binds K d_law_of ["source", "some"] []
  g_law_of : mg "_law_of" = some (.ref f_law_of)
  f_law_mixed : Addr
  d_law_mixed : FuncData
  F_law_mixed : Fun K "_law_mixed" "_law_mixed" s_law_mixed f_law_mixed d_law_mixed
  b_law_mixed : L2.Binds K d_law_mixed ["source", "things"] []
  g_law_mixed : mg "_law_mixed" = some (.ref f_law_mixed)
  f_law_product : Addr
  d_law_product : FuncData
  F_law_product : Fun K "_law_product" "_law_product" s_law_product f_law_product d_law_product
  b_law_product : L2.Binds K d_law_product ["one", "other"] []
  g_law_product : mg "_law_product" = some (.ref f_law_product)
  f_law_top : Addr
  d_law_top : FuncData
  F_law_top : Fun K "_law_top" "_law_top" s_law_top f_law_top d_law_top
  b_law_top : L2.Binds K d_law_top ["t"] []
  g_law_top : mg "_law_top" = some (.ref f_law_top)
section
variable {P : Program} {w : World} {K : PySem.W.Frag} {mg : Str → Option Value} {base : Heap}
/-! ### top_number -/
theorem sctop_number : FnScope ["t", "h", "above", "below", "factor", "number", "j", "i"] ["t"] (defScope stop_number) := ⟨rfl, rfl, rfl, by decide +kernel, rfl, by decide +kernel, by decide +kernel⟩
def mtop_number : Rho → M Out := (mSeq (mSet 1 (mCall gLen (aCons (vVal 0) aNil))) (mSeq (mAsg (gT 2 (gTc (gN 2) (gTc (gN 3) gTs))) (mTup (aCons (vC (.int 1)) (aCons (vC (.int 1)) aNil)))) (mSeq (mFor (gN 4) (mRng2 (aCons (vC (.int 1)) (aCons (mOp gAdd (mOp (gI fun i j => .int (i - j)) (mCall gSum (aCons (vVal 0) aNil)) (mOp (gC (fun _ j => decide (0 < j) && decide (j.natAbs.log2 < 9000)) fun i j => .int (i / j)) (mOp gMul (vVal 1) (mOp (gI fun i j => .int (i - j)) (vVal 1) (vC (.int 1)))) (vC (.int 2)))) (vC (.int 1))) aNil))) (mSet 2 (mOp gMul (vVal 2) (vVal 4)))) (mSeq (mFor (gN 5) (fun ρ => ((vVal 0) ρ).bind itemsOf) (mFor (gN 4) (mRng2 (aCons (vC (.int 1)) (aCons (mOp gAdd (vVal 5) (vC (.int 1))) aNil))) (mSet 3 (mOp gMul (vVal 3) (vVal 4))))) (mSeq (mFor (gN 6) (mRng1 (aCons (vVal 1) aNil)) (mFor (gN 7) (mRng1 (aCons (vVal 6) aNil)) (mSet 2 (mOp gMul (vVal 2) (mOp (gI fun i j => .int (i - j)) (mOp gIx (vVal 0) (vVal 6)) (mOp gIx (vVal 0) (vVal 7))))))) (mRet (mOp (gC (fun _ j => decide (0 < j) && decide (j.natAbs.log2 < 9000)) fun i j => .int (i / j)) (vVal 2) (vVal 3))))))))
def fntop_number : List D → M D := fnOf false 8 mtop_number
theorem oktop_number (E : Facts K mg)  : FnM P w K mg base 1 E.ftop_number E.dtop_number ["t"] false 1 fntop_number :=
  ok_def E.Ftop_number sctop_number rfl (by decide) fun cdv A outer s H S hr hgd => by
    have hu : (A.deeper (envOfC "top_number" (defScope stop_number) s.heap.objs.size E.ftop_number cdv)).units + 70 < cLine := by have := hr.un; omega
    have hu2 : (A.deeper (envOfC "top_number" (defScope stop_number) s.heap.objs.size E.ftop_number cdv)).units + 64 < cLine := by omega
    have Sc := sctop_number
    exact (b_cons (s_set 1 Sc.nd (x_bi c_len (by rfl) E.z_len (by rfl) (ar_cons (PEm.r (xv 0)) ar_nil)))
      (b_cons (s_asg (vs := [2, 3]) (x_tup (a_cons x_int (a_cons x_int a_nil))) (g_tup rfl (gs_cons (g_name 2 Sc.nd) (gs_cons (g_name 3 Sc.nd) gs_nil))))
      (b_cons (s_for (vs := [4]) PassesOwn.never rfl (i_rng2 (a_cons x_int (a_cons (x_op s_add (PEm.r (x_op s_sub (PEm.r (x_bi (c_sum rfl) (by rfl) E.z_sum (by rfl) (ar_cons (PEm.r (xv 0)) ar_nil))) (PEm.r (x_op s_fdiv (PEm.r (x_op s_times (PEm.r (xv 1)) (PEm.r (x_op s_sub (PEm.r (xv 1)) (PEm.r x_int))))) (PEm.r x_int))))) (PEm.r x_int)) a_nil)) (by rfl) E.z_range) (g_name 4 Sc.nd) (b_one (s_set 2 Sc.nd (x_op s_times (PEm.r (xv 2)) (PEm.r (xv 4))))))
      (b_cons (s_for (vs := [5]) PassesOwn.never rfl (i_val (xv 0)) (g_name 5 Sc.nd) (b_one (s_for (vs := [4]) PassesOwn.never rfl (i_rng2 (a_cons x_int (a_cons (x_op s_add (PEm.r (xv 5)) (PEm.r x_int)) a_nil)) (by rfl) E.z_range) (g_name 4 Sc.nd) (b_one (s_set 3 Sc.nd (x_op s_times (PEm.r (xv 3)) (PEm.r (xv 4))))))))
      (b_cons (s_for (vs := [6]) PassesOwn.never rfl (i_rng1 (a_cons (xv 1) a_nil) (by rfl) E.z_range) (g_name 6 Sc.nd) (b_one (s_for (vs := [7]) PassesOwn.never rfl (i_rng1 (a_cons (xv 6) a_nil) (by rfl) E.z_range) (g_name 7 Sc.nd) (b_one (s_set 2 Sc.nd (x_op s_times (PEm.r (xv 2)) (PEm.r (x_op s_sub (PEm.r (x_ix hu (PEm.r (xv 0)) (PEm.r (xv 6)))) (PEm.r (x_ix hu (PEm.r (xv 0)) (PEm.r (xv 7))))))))))))
      (b_one (s_ret (x_op s_fdiv (PEm.r (xv 2)) (PEm.r (xv 3))))))))))
/-! ### told_powers -/
theorem sctold_powers : FnScope ["p", "k", "h", "found", "lap", "some", "i"] ["p", "k", "h"] (defScope stold_powers) := ⟨rfl, rfl, rfl, by decide +kernel, rfl, by decide +kernel, by decide +kernel⟩
def mtold_powers : Rho → M Out := (mSeq (mIfS (mB (mOp (gI fun i j => .bl (decide (i < j))) (mOp gMul (vVal 2) (mOp (gI fun i j => .int (i - j)) (vVal 1) (vVal 2))) (vVal 0))) (mRet (mCall gTuple (aCons (mRgL (aCons (mOp (gI fun i j => .int (i - j)) (vVal 1) (vVal 2)) (aCons (vVal 1) aNil))) aNil))) mSkip) (mSeq (mOwn 3 (mRgL (aCons (vVal 2) aNil))) (mSeq (mFor (gN 4) (mRng1 (aCons (mOp (gI fun i j => .int (i - j)) (vVal 0) (vC (.int 1))) aNil)) (mSeq (mSet 5 (mComp [6] (gN 6) (mRng1 (aCons (vVal 2) aNil)) (mB (mOp (gI fun i j => .bl (decide (i < j))) (mOp gAdd (mOp gIx (vRd 3) (vVal 6)) (vC (.int 1))) (mIf (mB (mOp (gI fun i j => .bl (decide (i < j))) (mOp gAdd (vVal 6) (vC (.int 1))) (vVal 2))) (mOp gIx (vRd 3) (mOp gAdd (vVal 6) (vC (.int 1)))) (vVal 1)))) (vVal 6))) (mSto 3 (mOp gIx (vVal 5) (mNeg (vC (.int 1)))) (mOp gAdd (mOp gIx (vRd 3) (mOp gIx (vVal 5) (mNeg (vC (.int 1))))) (vC (.int 1)))))) (mRet (mCall gTuple (aCons (vRd 3) aNil))))))
def fntold_powers : List D → M D := fnOf false 7 mtold_powers
theorem oktold_powers (E : Facts K mg)  : FnM P w K mg base 1 E.ftold_powers E.dtold_powers ["p", "k", "h"] false 3 fntold_powers :=
  ok_def E.Ftold_powers sctold_powers rfl (by decide) fun cdv A outer s H S hr hgd => by
    have hu : (A.deeper (envOfC "told_powers" (defScope stold_powers) s.heap.objs.size E.ftold_powers cdv)).units + 70 < cLine := by have := hr.un; omega
    have hu2 : (A.deeper (envOfC "told_powers" (defScope stold_powers) s.heap.objs.size E.ftold_powers cdv)).units + 64 < cLine := by omega
    have Sc := sctold_powers
    exact (b_cons (s_if (t_cmp s_lt (PEm.r (x_op s_times (PEm.r (xv 2)) (PEm.r (x_op s_sub (PEm.r (xv 1)) (PEm.r (xv 2)))))) (PEm.r (xv 0)) (nomark _)) (b_one (s_ret (x_ty c_tuple (by rfl) E.z_tuple (by rfl) (ar_cons (PEf.r (f_listRg rfl (rg_2 (x_op s_sub (PEm.r (xv 1)) (PEm.r (xv 2))) (xv 1) (by rfl) E.z_range) (by rfl) E.z_list)) ar_nil)))) b_nil)
      (b_cons (s_own 3 Sc.nd (f_listRg rfl (rg_1 (xv 2) (by rfl) E.z_range) (by rfl) E.z_list))
      (b_cons (s_for (vs := [4]) PassesOwn.never rfl (i_rng1 (a_cons (x_op s_sub (PEm.r (xv 0)) (PEm.r x_int)) a_nil) (by rfl) E.z_range) (g_name 4 Sc.nd) (b_cons (s_setLc 5 [("i", 6)] rfl Sc.nd (i_rng1 (a_cons (xv 2) a_nil) (by rfl) E.z_range) (bk_ok rfl) (fun _ _ _ _ _ => (g_name 6 Sc.nd)) (fun _ _ _ _ _ => (ts_one (t_cmp s_lt (PEm.r (x_op s_add (PEm.r (x_ix hu (xr 3) (PEm.r (xv 6)))) (PEm.r x_int))) (PEm.r (x_if (t_cmp s_lt (PEm.r (x_op s_add (PEm.r (xv 6)) (PEm.r x_int))) (PEm.r (xv 2)) (nomark _)) (x_ix hu (xr 3) (PEm.r (x_op s_add (PEm.r (xv 6)) (PEm.r x_int)))) (xv 1))) (nomark _)))) (fun _ _ _ _ _ => (xv 6)) (sw_true rfl rfl rfl (by decide +kernel)))
      (b_one (s_sto 3 hu (x_op s_add (PEm.r (x_ix hu (xr 3) (PEm.r (x_ix hu (PEm.r (xv 5)) (PEm.r (x_neg x_int)))))) (PEm.r x_int)) (PEm.r (x_ix hu (PEm.r (xv 5)) (PEm.r (x_neg x_int))))))))
      (b_one (s_ret (x_ty c_tuple (by rfl) E.z_tuple (by rfl) (ar_cons (xr 3) ar_nil)))))))
/-! ### _law_of -/
theorem sc_law_of : FnScope ["source", "some"] ["source", "some"] (defScope s_law_of) := ⟨rfl, rfl, rfl, by decide +kernel, rfl, by decide +kernel, by decide +kernel⟩
def m_law_of : Rho → M Out := (mRet (mOp gIx (vVal 1) (mFnS 0 1 pickFn (aCons (mCall gLen (aCons (vVal 1) aNil)) aNil))))
def fn_law_of : List D → M D := fnOf true 2 m_law_of
theorem ok_law_of (E : Facts K mg) (F_law_pick : FnM P w K mg base 1 E.f_law_pick E.d_law_pick ["source", "most"] true 1 pickFn) : FnM P w K mg base 2 E.f_law_of E.d_law_of ["source", "some"] true 1 fn_law_of :=
  ok_def E.F_law_of sc_law_of rfl (by decide) fun cdv A outer s H S hr hgd => by
    have hu : (A.deeper (envOfC "_law_of" (defScope s_law_of) s.heap.objs.size E.f_law_of cdv)).units + 70 < cLine := by have := hr.un; omega
    have hu2 : (A.deeper (envOfC "_law_of" (defScope s_law_of) s.heap.objs.size E.f_law_of cdv)).units + 64 < cLine := by omega
    have Sc := sc_law_of
    exact (b_one (s_ret (x_ix hu (PEm.r (xv 1)) (PEm.r (x_fnS 0 (F_law_pick.up (by decide)) E.g_law_pick E.F_law_pick.kp E.b_law_pick hr hgd (a_cons (x_bi c_len (by rfl) E.z_len (by rfl) (ar_cons (PEm.r (xv 1)) ar_nil)) a_nil))))))
/-! ### _law_product -/
theorem sc_law_product : FnScope ["one", "other", "found", "powers", "late", "both", "a", "b"] ["one", "other"] (defScope s_law_product) := ⟨rfl, rfl, rfl, by decide +kernel, rfl, by decide +kernel, by decide +kernel⟩
def m_law_product : Rho → M Out := (mSeq (mOwn 2 (vC (.dct []))) (mSeq (mFor (gN 3) (fun ρ => ((vVal 0) ρ).bind itemsOf) (mFor (gN 4) (fun ρ => ((vVal 1) ρ).bind itemsOf) (mSeq (mSet 5 (mCall gTuple (aCons (mComp [6, 7] (gT 2 (gTc (gN 6) (gTc (gN 7) gTs))) (mZip2 (aCons (vVal 3) (aCons (vVal 4) aNil))) mYes (mOp gAdd (vVal 6) (vVal 7))) aNil))) (mSto 2 (vVal 5) (mOp gAdd (mGet (vRd 2) (aCons (vVal 5) (aCons (vC (.int 0)) aNil))) (mOp gMul (mOp gIx (vVal 0) (vVal 3)) (mOp gIx (vVal 1) (vVal 4)))))))) (mFrz 2 (mRet (vVal 2)))))
def fn_law_product : List D → M D := fnOf false 8 m_law_product
theorem ok_law_product (E : Facts K mg)  : FnM P w K mg base 1 E.f_law_product E.d_law_product ["one", "other"] false 2 fn_law_product :=
  ok_def E.F_law_product sc_law_product rfl (by decide) fun cdv A outer s H S hr hgd => by
    have hu : (A.deeper (envOfC "_law_product" (defScope s_law_product) s.heap.objs.size E.f_law_product cdv)).units + 70 < cLine := by have := hr.un; omega
    have hu2 : (A.deeper (envOfC "_law_product" (defScope s_law_product) s.heap.objs.size E.f_law_product cdv)).units + 64 < cLine := by omega
    have Sc := sc_law_product
    exact (b_cons (s_own 2 Sc.nd f_dct0)
      (b_cons (s_for (vs := [3]) PassesOwn.never rfl (i_val (xv 0)) (g_name 3 Sc.nd) (b_one (s_for (vs := [4]) PassesOwn.never rfl (i_val (xv 1)) (g_name 4 Sc.nd) (b_cons (s_set 5 Sc.nd (x_ty c_tuple (by rfl) E.z_tuple (by rfl) (ar_cons (PEf.r (f_lc [("a", 6), ("b", 7)] rfl Sc.nd (i_zip2 (a_cons (xv 3) (a_cons (xv 4) a_nil)) (by rfl) E.z_zip) (bk_ok rfl) (fun _ _ _ _ _ => (g_tup rfl (gs_cons (g_name 6 Sc.nd) (gs_cons (g_name 7 Sc.nd) gs_nil)))) (fun _ _ _ _ _ => ts_nil) (fun _ _ _ _ _ => (x_op s_add (PEm.r (xv 6)) (PEm.r (xv 7)))))) ar_nil)))
      (b_one (s_sto 2 hu (x_op s_add (PEm.r (x_get hu (xr 2) (a_cons (xv 5) (a_cons x_int a_nil)))) (PEm.r (x_op s_times (PEm.r (x_ix hu (PEm.r (xv 0)) (PEm.r (xv 3)))) (PEm.r (x_ix hu (PEm.r (xv 1)) (PEm.r (xv 4))))))) (PEm.r (xv 5))))))))
      (b_one (s_frz 2 (s_ret (xv 2))))))
/-! ### _law_top -/
theorem sc_law_top : FnScope ["t", "h", "names", "j", "i", "found", "lap", "name"] ["t"] (defScope s_law_top) := ⟨rfl, rfl, rfl, by decide +kernel, rfl, by decide +kernel, by decide +kernel⟩
def m_law_top : Rho → M Out := (mSeq (mSet 1 (mCall gLen (aCons (vVal 0) aNil))) (mSeq (mSet 2 (mComp [4] (gN 4) (mRng1 (aCons (vVal 1) aNil)) mYes (mCall gTuple (aCons (mComp [3] (gN 3) (mRng1 (aCons (vVal 1) aNil)) mYes (mCall gInt (aCons (mOp gEq (vVal 4) (vVal 3)) aNil))) aNil)))) (mSeq (mSet 5 (mDct (aCons (mOp gMul (mTup (aCons (vC (.int 0)) aNil)) (vVal 1)) (aCons (vC (.int 1)) aNil)))) (mSeq (mFor (gN 3) (mRng1 (aCons (vVal 1) aNil)) (mFor (gN 4) (mRng1 (aCons (vVal 3) aNil)) (mSet 5 (mFn 2 fn_law_product (aCons (vVal 5) (aCons (mDct (aCons (mOp gIx (vVal 2) (vVal 3)) (aCons (vC (.int 1)) (aCons (mOp gIx (vVal 2) (vVal 4)) (aCons (mNeg (vC (.int 1))) aNil))))) aNil)))))) (mSeq (mFor (gN 6) (mRng1 (aCons (mOp (gI fun i j => .int (i - j)) (mCall gSum (aCons (vVal 0) aNil)) (mOp (gC (fun _ j => decide (0 < j) && decide (j.natAbs.log2 < 9000)) fun i j => .int (i / j)) (mOp gMul (vVal 1) (mOp (gI fun i j => .int (i - j)) (vVal 1) (vC (.int 1)))) (vC (.int 2)))) aNil)) (mSet 5 (mFn 2 fn_law_product (aCons (vVal 5) (aCons (mCall gDictP (aCons (mComp [7] (gN 7) (fun ρ => ((vVal 2) ρ).bind itemsOf) mYes (mTup (aCons (vVal 7) (aCons (vC (.int 1)) aNil)))) aNil)) aNil))))) (mRet (mGet (vVal 5) (aCons (mCall gTuple (aCons (vVal 0) aNil)) (aCons (vC (.int 0)) aNil)))))))))
def fn_law_top : List D → M D := fnOf false 8 m_law_top
theorem ok_law_top (E : Facts K mg) (F_law_product : FnM P w K mg base 1 E.f_law_product E.d_law_product ["one", "other"] false 2 fn_law_product) : FnM P w K mg base 2 E.f_law_top E.d_law_top ["t"] false 1 fn_law_top :=
  ok_def E.F_law_top sc_law_top rfl (by decide) fun cdv A outer s H S hr hgd => by
    have hu : (A.deeper (envOfC "_law_top" (defScope s_law_top) s.heap.objs.size E.f_law_top cdv)).units + 70 < cLine := by have := hr.un; omega
    have hu2 : (A.deeper (envOfC "_law_top" (defScope s_law_top) s.heap.objs.size E.f_law_top cdv)).units + 64 < cLine := by omega
    have Sc := sc_law_top
    exact (b_cons (s_set 1 Sc.nd (x_bi c_len (by rfl) E.z_len (by rfl) (ar_cons (PEm.r (xv 0)) ar_nil)))
      (b_cons (s_setLc 2 [("i", 4)] rfl Sc.nd (i_rng1 (a_cons (xv 1) a_nil) (by rfl) E.z_range) (bk_ok rfl) (fun _ _ _ _ _ => (g_name 4 Sc.nd)) (fun _ _ _ _ _ => ts_nil) (fun _ _ _ _ _ => (x_ty c_tuple (by rfl) E.z_tuple (by rfl) (ar_cons (PEf.r (f_lc [("j", 3)] rfl Sc.nd (i_rng1 (a_cons (xv 1) a_nil) (by rfl) E.z_range) (bk_ok rfl) (fun _ _ _ _ _ => (g_name 3 Sc.nd)) (fun _ _ _ _ _ => ts_nil) (fun _ _ _ _ _ => (x_ty c_int (by rfl) E.z_int (by rfl) (ar_cons (PEm.r (x_cmp (s_eq hu2) (PEm.r (xv 4)) (PEm.r (xv 3)) (nomark _))) ar_nil))))) ar_nil))) (sw_true rfl rfl rfl (by decide +kernel)))
      (b_cons (s_set 5 Sc.nd (PEf.m (f_dct hu (p_cons (x_op s_times (PEm.r (x_tup (a_cons x_int a_nil))) (PEm.r (xv 1))) x_int p_nil) rfl (by simp) (by simp))))
      (b_cons (s_for (vs := [3]) PassesOwn.never rfl (i_rng1 (a_cons (xv 1) a_nil) (by rfl) E.z_range) (g_name 3 Sc.nd) (b_one (s_for (vs := [4]) PassesOwn.never rfl (i_rng1 (a_cons (xv 3) a_nil) (by rfl) E.z_range) (g_name 4 Sc.nd) (b_one (s_set 5 Sc.nd (x_fn (F_law_product.up (by decide)) E.g_law_product E.F_law_product.kp E.b_law_product hr hgd (a_cons (xv 5) (a_cons (PEf.m (f_dct hu (p_cons (x_ix hu (PEm.r (xv 2)) (PEm.r (xv 3))) x_int (p_cons (x_ix hu (PEm.r (xv 2)) (PEm.r (xv 4))) (x_neg x_int) p_nil)) rfl (by simp) (by simp))) a_nil))))))))
      (b_cons (s_for (vs := [6]) PassesOwn.never rfl (i_rng1 (a_cons (x_op s_sub (PEm.r (x_bi (c_sum rfl) (by rfl) E.z_sum (by rfl) (ar_cons (PEm.r (xv 0)) ar_nil))) (PEm.r (x_op s_fdiv (PEm.r (x_op s_times (PEm.r (xv 1)) (PEm.r (x_op s_sub (PEm.r (xv 1)) (PEm.r x_int))))) (PEm.r x_int)))) a_nil) (by rfl) E.z_range) (g_name 6 Sc.nd) (b_one (s_set 5 Sc.nd (x_fn (F_law_product.up (by decide)) E.g_law_product E.F_law_product.kp E.b_law_product hr hgd (a_cons (xv 5) (a_cons (PEf.m (x_ty (c_dictP hu rfl) (by rfl) E.z_dict (by rfl) (ar_cons (PEf.r (f_lc [("name", 7)] rfl Sc.nd (i_val (xv 2)) (bk_ok rfl) (fun _ _ _ _ _ => (g_name 7 Sc.nd)) (fun _ _ _ _ _ => ts_nil) (fun _ _ _ _ _ => (x_tup (a_cons (xv 7) (a_cons x_int a_nil)))))) ar_nil))) a_nil))))))
      (b_one (s_ret (x_get hu (PEm.r (xv 5)) (a_cons (x_ty c_tuple (by rfl) E.z_tuple (by rfl) (ar_cons (PEm.r (xv 0)) ar_nil)) (a_cons x_int a_nil))))))))))
/-! ### law -/
theorem sclaw : FnScope ["script", "source", "lap", "h", "t", "p", "k", "s", "i", "here", "step", "some"] ["script"] (defScope slaw) := ⟨rfl, rfl, rfl, by decide +kernel, rfl, by decide +kernel, by decide +kernel⟩
def mlaw : Rho → M Out := (mSeq (mFor (gN 2) (mRng1 (aCons (vC (.int 4)) aNil)) (mKill [2, 3, 4, 5, 6, 7, 8, 9, 10, 11] (mSeq (mSet 3 (mOp gAdd (vC (.int 1)) (mFnS 1 1 pickFn (aCons (vC (.int 3)) aNil)))) (mSeq (mSet 4 (mCall gTuple (aCons (mSl gSl (mFnS 1 1 mixFn (aCons (mRgL (aCons (mOp gIx (mLst (aCons (vC (.int 9)) (aCons (vC (.int 7)) (aCons (vC (.int 6)) aNil)))) (mOp (gI fun i j => .int (i - j)) (vVal 3) (vC (.int 1)))) aNil)) aNil)) mNoP (mP (vVal 3))) aNil))) (mSeq (mIfS (mB (mOp gNe (mCall gRepr (aCons (mFn 1 fntop_number (aCons (vVal 4) aNil)) aNil)) (mCall gRepr (aCons (mFn 1 fn_law_top (aCons (vVal 4) aNil)) aNil)))) (mRet (vC (.bl false))) mSkip) (mIfS (mAnd (mB (mOp (gI fun i j => .bl (decide (j < i))) (vVal 3) (vC (.int 1)))) (mB (mOp gNe (mFn 1 fntop_number (aCons (mOp gAdd (mTup (aCons (mOp gIx (vVal 4) (vC (.int 1))) (aCons (mOp gIx (vVal 4) (vC (.int 0))) aNil))) (mSl gSl (vVal 4) (mP (vC (.int 2))) mNoP)) aNil)) (mOp (gI fun i j => .int (i - j)) (vC (.int 0)) (mFn 1 fntop_number (aCons (vVal 4) aNil)))))) (mRet (vC (.bl false))) mSkip)))))) (mSeq (mFor (gN 2) (mRng1 (aCons (vC (.int 6)) aNil)) (mKill [2, 3, 4, 5, 6, 7, 8, 9, 10, 11] (mSeq (mSet 5 (mFnS 1 1 fn_law_of (aCons (mLst (aCons (vC (.int 2)) (aCons (vC (.int 3)) (aCons (vC (.int 5)) (aCons (vC (.int 7)) (aCons (vC (.int 11)) (aCons (vC (.int 13)) aNil))))))) aNil))) (mSeq (mSet 6 (mOp gAdd (vC (.int 1)) (mFnS 1 1 pickFn (aCons (vVal 5) aNil)))) (mSeq (mSet 3 (mOp gAdd (vC (.int 1)) (mFnS 1 1 pickFn (aCons (mCall gMin2 (aCons (vVal 6) (aCons (vC (.int 5)) aNil))) aNil)))) (mSeq (mSet 4 (mFn 3 fntold_powers (aCons (vVal 5) (aCons (vVal 6) (aCons (vVal 3) aNil))))) (mSeq (mSet 7 (mOp (gI fun i j => .int (i - j)) (mCall gSum (aCons (vVal 4) aNil)) (mOp (gC (fun _ j => decide (0 < j) && decide (j.natAbs.log2 < 9000)) fun i j => .int (i / j)) (mOp gMul (vVal 3) (mOp (gI fun i j => .int (i - j)) (vVal 3) (vC (.int 1)))) (vC (.int 2))))) (mSeq (mIfS (mOr (mNot (mB (mIsi "tuple" (vVal 4)))) (mOr (mB (mOp gNe (mCall gLen (aCons (vVal 4) aNil)) (vVal 3))) (mB (mOp gNe (mComp [8] (gN 8) (mRng2 (aCons (vC (.int 1)) (aCons (vVal 3) aNil))) (mB (mOp (gI fun i j => .bl (decide (i ≤ j))) (mOp gIx (vVal 4) (vVal 8)) (mOp gIx (vVal 4) (mOp (gI fun i j => .int (i - j)) (vVal 8) (vC (.int 1)))))) (vVal 8)) (mLst aNil))))) (mRet (vC (.bl false))) mSkip) (mSeq (mIfS (mOr (mB (mOp (gI fun i j => .bl (decide (i < j))) (mOp gIx (vVal 4) (vC (.int 0))) (vC (.int 0)))) (mOr (mB (mOp (gI fun i j => .bl (decide (j < i))) (mOp gIx (vVal 4) (mNeg (vC (.int 1)))) (mOp (gI fun i j => .int (i - j)) (vVal 6) (vC (.int 1))))) (mOr (mB (mOp gNe (vVal 7) (mCall gMin2 (aCons (mOp (gI fun i j => .int (i - j)) (vVal 5) (vC (.int 1))) (aCons (mOp gMul (vVal 3) (mOp (gI fun i j => .int (i - j)) (vVal 6) (vVal 3))) aNil))))) (mB (mOp gEq (mOp (gC (fun _ j => decide (0 < j)) fun i j => .int (i % j)) (mCall gInt (aCons (mFn 1 fntop_number (aCons (vVal 4) aNil)) aNil)) (vVal 5)) (vC (.int 0))))))) (mRet (vC (.bl false))) mSkip) (mSeq (mIfS (mAnd (mB (mOp (gI fun i j => .bl (decide (i < j))) (mOp gMul (vVal 3) (mOp (gI fun i j => .int (i - j)) (vVal 6) (vVal 3))) (vVal 5))) (mB (mOp gNe (vVal 4) (mCall gTuple (aCons (mRgL (aCons (mOp (gI fun i j => .int (i - j)) (vVal 6) (vVal 3)) (aCons (vVal 6) aNil))) aNil))))) (mRet (vC (.bl false))) mSkip) (mSeq (mOwn 9 (mRgL (aCons (vVal 3) aNil))) (mSeq (mFor (gN 10) (mRng1 (aCons (mIf (mB (mOp (gI fun i j => .bl (decide (j ≤ i))) (mOp gMul (vVal 3) (mOp (gI fun i j => .int (i - j)) (vVal 6) (vVal 3))) (vVal 5))) (vVal 7) (vC (.int 0))) aNil)) (mKill [2, 8, 10, 11] (mSeq (mSet 11 (mComp [8] (gN 8) (mRng1 (aCons (vVal 3) aNil)) (mB (mOp (gI fun i j => .bl (decide (i < j))) (mOp gAdd (mOp gIx (vRd 9) (vVal 8)) (vC (.int 1))) (mIf (mB (mOp (gI fun i j => .bl (decide (i < j))) (mOp gAdd (vVal 8) (vC (.int 1))) (vVal 3))) (mOp gIx (vRd 9) (mOp gAdd (vVal 8) (vC (.int 1)))) (vVal 6)))) (vVal 8))) (mSto 9 (mOp gIx (vVal 11) (mNeg (vC (.int 1)))) (mOp gAdd (mOp gIx (vRd 9) (mOp gIx (vVal 11) (mNeg (vC (.int 1))))) (vC (.int 1))))))) (mIfS (mAnd (mB (mOp (gI fun i j => .bl (decide (j ≤ i))) (mOp gMul (vVal 3) (mOp (gI fun i j => .int (i - j)) (vVal 6) (vVal 3))) (vVal 5))) (mB (mOp gNe (vVal 4) (mCall gTuple (aCons (vRd 9) aNil))))) (mRet (vC (.bl false))) mSkip))))))))))))) (mRet (fun ρ => ((mOp gEq (mFn 1 fntop_number (aCons (mTup (aCons (vC (.int 1)) (aCons (vC (.int 3)) aNil))) aNil)) (vC (.int 2))) ρ).bind fun x => (toB x).bind fun c => if c = true then (mOp gEq (mFn 3 fntold_powers (aCons (vC (.int 5)) (aCons (vC (.int 5)) (aCons (vC (.int 2)) aNil)))) (mTup (aCons (vC (.int 1)) (aCons (vC (.int 4)) aNil)))) ρ else .ret (.bl false)))))
theorem body_law (E : Facts K mg) (F_law_of : FnM P w K mg base 2 E.f_law_of E.d_law_of ["source", "some"] true 1 fn_law_of) (Ftold_powers : FnM P w K mg base 1 E.ftold_powers E.dtold_powers ["p", "k", "h"] false 3 fntold_powers) (F_law_pick : FnM P w K mg base 1 E.f_law_pick E.d_law_pick ["source", "most"] true 1 pickFn) (Ftop_number : FnM P w K mg base 1 E.ftop_number E.dtop_number ["t"] false 1 fntop_number) (F_law_mixed : FnM P w K mg base 2 E.f_law_mixed E.d_law_mixed ["source", "things"] true 1 mixFn) (F_law_top : FnM P w K mg base 2 E.f_law_top E.d_law_top ["t"] false 1 fn_law_top) {cdv : Value} {A : Around} {outer : List Env} {s : Shared} {H : Hp} {f : Addr} {S : Src} (hr : Room 2 (A.deeper (envOfC "law" (defScope slaw) s.heap.objs.size f cdv))) (hgd : (A.deeper (envOfC "law" (defScope slaw) s.heap.objs.size f cdv)).guards = some []) : PBm (cxOf CX0 P w K mg base ["script", "source", "lap", "h", "t", "p", "k", "s", "i", "here", "step", "some"] "law" (defScope slaw) f cdv A outer s H E0).nox S ((defBody slaw).drop 1) mlaw := by
  have hu : (A.deeper (envOfC "law" (defScope slaw) s.heap.objs.size f cdv)).units + 70 < cLine := by have := hr.un; omega
  have hu2 : (A.deeper (envOfC "law" (defScope slaw) s.heap.objs.size f cdv)).units + 64 < cLine := by omega
  have Sc := sclaw
  exact (b_cons (s_for (vs := [2]) PassesOwn.never rfl (i_rng1 (a_cons x_int a_nil) (by rfl) E.z_range) (g_name 2 Sc.nd) (s_kill [2, 3, 4, 5, 6, 7, 8, 9, 10, 11] (b_cons (s_set 3 Sc.nd (x_op s_add (PEm.r x_int) (PEm.r (x_fnS 1 (F_law_pick.up (by decide)) E.g_law_pick E.F_law_pick.kp E.b_law_pick hr hgd (a_cons x_int a_nil)))))
      (b_cons (s_set 4 Sc.nd (x_ty c_tuple (by rfl) E.z_tuple (by rfl) (ar_cons (PEm.r (x_sl (PEm.r (x_fnS 1 (F_law_mixed.up (by decide)) E.g_law_mixed E.F_law_mixed.kp E.b_law_mixed hr hgd (a_cons (PEf.m (f_listRg rfl (rg_1 (x_ix hu (PEf.r (f_lst (a_cons x_int (a_cons x_int (a_cons x_int a_nil))))) (PEm.r (x_op s_sub (PEm.r (xv 3)) (PEm.r x_int)))) (by rfl) E.z_range) (by rfl) E.z_list)) a_nil))) o_none (o_some (xv 3)))) ar_nil)))
      (b_cons (s_if (t_cmp (s_ne hu2) (PEm.r (x_bi (c_repr hu hgd) (by rfl) E.z_repr (by rfl) (ar_cons (PEm.r (x_fn (Ftop_number.up (by decide)) E.gtop_number E.Ftop_number.kp E.btop_number hr hgd (a_cons (xv 4) a_nil))) ar_nil))) (PEm.r (x_bi (c_repr hu hgd) (by rfl) E.z_repr (by rfl) (ar_cons (PEm.r (x_fn (F_law_top.up (by decide)) E.g_law_top E.F_law_top.kp E.b_law_top hr hgd (a_cons (xv 4) a_nil))) ar_nil))) (nomark _)) (b_one (s_ret x_bl)) b_nil)
      (b_one (s_if (t_pw (t_and (t_cmp s_gt (PEm.r (xv 3)) (PEm.r x_int) (nomark _)) (t_and1 (t_cmp (s_ne hu2) (PEm.r (x_fn (Ftop_number.up (by decide)) E.gtop_number E.Ftop_number.kp E.btop_number hr hgd (a_cons (x_op s_add (PEm.r (x_tup (a_cons (x_ix hu (PEm.r (xv 4)) (PEm.r x_int)) (a_cons (x_ix hu (PEm.r (xv 4)) (PEm.r x_int)) a_nil)))) (PEm.r (x_sl (PEm.r (xv 4)) (o_some x_int) o_none))) a_nil))) (PEm.r (x_op s_sub (PEm.r x_int) (PEm.r (x_fn (Ftop_number.up (by decide)) E.gtop_number E.Ftop_number.kp E.btop_number hr hgd (a_cons (xv 4) a_nil))))) (nomark _))))) (b_one (s_ret x_bl)) b_nil)))))))
      (b_cons (s_for (vs := [2]) PassesOwn.never rfl (i_rng1 (a_cons x_int a_nil) (by rfl) E.z_range) (g_name 2 Sc.nd) (s_kill [2, 3, 4, 5, 6, 7, 8, 9, 10, 11] (b_cons (s_set 5 Sc.nd (x_fnS 1 (F_law_of.up (by decide)) E.g_law_of E.F_law_of.kp E.b_law_of hr hgd (a_cons (PEf.m (f_lst (a_cons x_int (a_cons x_int (a_cons x_int (a_cons x_int (a_cons x_int (a_cons x_int a_nil)))))))) a_nil)))
      (b_cons (s_set 6 Sc.nd (x_op s_add (PEm.r x_int) (PEm.r (x_fnS 1 (F_law_pick.up (by decide)) E.g_law_pick E.F_law_pick.kp E.b_law_pick hr hgd (a_cons (xv 5) a_nil)))))
      (b_cons (s_set 3 Sc.nd (x_op s_add (PEm.r x_int) (PEm.r (x_fnS 1 (F_law_pick.up (by decide)) E.g_law_pick E.F_law_pick.kp E.b_law_pick hr hgd (a_cons (x_bi (c_min2 rfl) (by rfl) E.z_min (by rfl) (ar_cons (PEm.r (xv 6)) (ar_cons (PEm.r x_int) ar_nil))) a_nil)))))
      (b_cons (s_set 4 Sc.nd (x_fn (Ftold_powers.up (by decide)) E.gtold_powers E.Ftold_powers.kp E.btold_powers hr hgd (a_cons (xv 5) (a_cons (xv 6) (a_cons (xv 3) a_nil)))))
      (b_cons (s_set 7 Sc.nd (x_op s_sub (PEm.r (x_bi (c_sum rfl) (by rfl) E.z_sum (by rfl) (ar_cons (PEm.r (xv 4)) ar_nil))) (PEm.r (x_op s_fdiv (PEm.r (x_op s_times (PEm.r (xv 3)) (PEm.r (x_op s_sub (PEm.r (xv 3)) (PEm.r x_int))))) (PEm.r x_int)))))
      (b_cons (s_if (t_pw (t_or (t_not (t_val (x_isi "tuple" (by simp) (PEm.r (xv 4)) (by rfl) E.z_isinstance (by rfl) E.z_tuple (by rfl)))) (t_or (t_cmp (s_ne hu2) (PEm.r (x_bi c_len (by rfl) E.z_len (by rfl) (ar_cons (PEm.r (xv 4)) ar_nil))) (PEm.r (xv 3)) (nomark _)) (t_or1 (t_cmp (s_ne hu2) (PEf.r (f_lc [("i", 8)] rfl Sc.nd (i_rng2 (a_cons x_int (a_cons (xv 3) a_nil)) (by rfl) E.z_range) (bk_ok rfl) (fun _ _ _ _ _ => (g_name 8 Sc.nd)) (fun _ _ _ _ _ => (ts_one (t_cmp s_le (PEm.r (x_ix hu (PEm.r (xv 4)) (PEm.r (xv 8)))) (PEm.r (x_ix hu (PEm.r (xv 4)) (PEm.r (x_op s_sub (PEm.r (xv 8)) (PEm.r x_int))))) (nomark _)))) (fun _ _ _ _ _ => (xv 8)))) (PEf.r (f_lst a_nil)) (nomark _)))))) (b_one (s_ret x_bl)) b_nil)
      (b_cons (s_if (t_pw (t_or (t_cmp s_lt (PEm.r (x_ix hu (PEm.r (xv 4)) (PEm.r x_int))) (PEm.r x_int) (nomark _)) (t_or (t_cmp s_gt (PEm.r (x_ix hu (PEm.r (xv 4)) (PEm.r (x_neg x_int)))) (PEm.r (x_op s_sub (PEm.r (xv 6)) (PEm.r x_int))) (nomark _)) (t_or (t_cmp (s_ne hu2) (PEm.r (xv 7)) (PEm.r (x_bi (c_min2 rfl) (by rfl) E.z_min (by rfl) (ar_cons (PEm.r (x_op s_sub (PEm.r (xv 5)) (PEm.r x_int))) (ar_cons (PEm.r (x_op s_times (PEm.r (xv 3)) (PEm.r (x_op s_sub (PEm.r (xv 6)) (PEm.r (xv 3)))))) ar_nil)))) (nomark _)) (t_or1 (t_cmp (s_eq hu2) (PEm.r (x_op s_mod (PEm.r (x_ty c_int (by rfl) E.z_int (by rfl) (ar_cons (PEm.r (x_fn (Ftop_number.up (by decide)) E.gtop_number E.Ftop_number.kp E.btop_number hr hgd (a_cons (xv 4) a_nil))) ar_nil))) (PEm.r (xv 5)))) (PEm.r x_int) (nomark _))))))) (b_one (s_ret x_bl)) b_nil)
      (b_cons (s_if (t_pw (t_and (t_cmp s_lt (PEm.r (x_op s_times (PEm.r (xv 3)) (PEm.r (x_op s_sub (PEm.r (xv 6)) (PEm.r (xv 3)))))) (PEm.r (xv 5)) (nomark _)) (t_and1 (t_cmp (s_ne hu2) (PEm.r (xv 4)) (PEm.r (x_ty c_tuple (by rfl) E.z_tuple (by rfl) (ar_cons (PEf.r (f_listRg rfl (rg_2 (x_op s_sub (PEm.r (xv 6)) (PEm.r (xv 3))) (xv 6) (by rfl) E.z_range) (by rfl) E.z_list)) ar_nil))) (nomark _))))) (b_one (s_ret x_bl)) b_nil)
      (b_cons (s_own 9 Sc.nd (f_listRg rfl (rg_1 (xv 3) (by rfl) E.z_range) (by rfl) E.z_list))
      (b_cons (s_for (vs := [10]) PassesOwn.never rfl (i_rng1 (a_cons (x_if (t_cmp s_ge (PEm.r (x_op s_times (PEm.r (xv 3)) (PEm.r (x_op s_sub (PEm.r (xv 6)) (PEm.r (xv 3)))))) (PEm.r (xv 5)) (nomark _)) (xv 7) x_int) a_nil) (by rfl) E.z_range) (g_name 10 Sc.nd) (s_kill [2, 8, 10, 11] (b_cons (s_setLc 11 [("i", 8)] rfl Sc.nd (i_rng1 (a_cons (xv 3) a_nil) (by rfl) E.z_range) (bk_ok rfl) (fun _ _ _ _ _ => (g_name 8 Sc.nd)) (fun _ _ _ _ _ => (ts_one (t_cmp s_lt (PEm.r (x_op s_add (PEm.r (x_ix hu (xr 9) (PEm.r (xv 8)))) (PEm.r x_int))) (PEm.r (x_if (t_cmp s_lt (PEm.r (x_op s_add (PEm.r (xv 8)) (PEm.r x_int))) (PEm.r (xv 3)) (nomark _)) (x_ix hu (xr 9) (PEm.r (x_op s_add (PEm.r (xv 8)) (PEm.r x_int)))) (xv 6))) (nomark _)))) (fun _ _ _ _ _ => (xv 8)) (sw_true rfl rfl rfl (by decide +kernel)))
      (b_one (s_sto 9 hu (x_op s_add (PEm.r (x_ix hu (xr 9) (PEm.r (x_ix hu (PEm.r (xv 11)) (PEm.r (x_neg x_int)))))) (PEm.r x_int)) (PEm.r (x_ix hu (PEm.r (xv 11)) (PEm.r (x_neg x_int)))))))))
      (b_one (s_if (t_pw (t_and (t_cmp s_ge (PEm.r (x_op s_times (PEm.r (xv 3)) (PEm.r (x_op s_sub (PEm.r (xv 6)) (PEm.r (xv 3)))))) (PEm.r (xv 5)) (nomark _)) (t_and1 (t_cmp (s_ne hu2) (PEm.r (xv 4)) (PEm.r (x_ty c_tuple (by rfl) E.z_tuple (by rfl) (ar_cons (xr 9) ar_nil))) (nomark _))))) (b_one (s_ret x_bl)) b_nil))))))))))))))
      (b_one (s_ret (x_and (x_cmp (s_eq hu2) (PEm.r (x_fn (Ftop_number.up (by decide)) E.gtop_number E.Ftop_number.kp E.btop_number hr hgd (a_cons (x_tup (a_cons x_int (a_cons x_int a_nil))) a_nil))) (PEm.r x_int) (nomark _)) (x_one (x_cmp (s_eq hu2) (PEm.r (x_fn (Ftold_powers.up (by decide)) E.gtold_powers E.Ftold_powers.kp E.btold_powers hr hgd (a_cons x_int (a_cons x_int (a_cons x_int a_nil))))) (PEm.r (x_tup (a_cons x_int (a_cons x_int a_nil)))) (nomark _))))))))
end
end R48

namespace R48
open PySem PySem.Spec PyProof.Rows L2 PL

theorem scH_pick : FnScope ["source", "most", "cells", "others", "lap", "stirred"] ["source", "most"] (defScope s_law_pick) := ⟨rfl, rfl, rfl, by decide +kernel, rfl, by decide +kernel, by decide +kernel⟩
section
variable {P : Program} {w : World} {K : PySem.W.Frag} {mg : Str → Option Value} {base : Heap}
theorem ok_pick {f : Addr} {fd : FuncData} {k : Nat} (F : Fun K "_law_pick" "_law_pick" s_law_pick f fd) (ml : mg "len" = none) (mi : mg "int" = none) : FnG P w K mg base (k + 1) f fd ["source", "most"] spPick := by
  refine fnG_of F scH_pick (fun vs H Q h => by obtain ⟨p, cells, l, m, t, most, rfl, _⟩ := h; rfl) fun cdv A outer s H vs Q hr hgd h => ?_
  obtain ⟨p, cells, l, m, t, most, rfl, pa, q1, q2⟩ := h
  have hu1 : (A.deeper (envOfC (Str.ofString "_law_pick") (defScope s_law_pick) s.heap.objs.size f cdv)).units + 1 < cLine := by have := hr.un; omega
  have tail : ∃ tt, PSs (cxOf CX0 P w K mg base ["source", "most", "cells", "others", "lap", "stirred"] "_law_pick" (defScope s_law_pick) f cdv A outer s H E0).nox ((defBody s_law_pick).drop 3) tt ∧
      (2 ≤ most → ∀ cells l H1, But p H H1 → PAt H1 p cells l m t → tt { nx := fun _ H' => Q .non H', rt := Q } [some (.ref p.1), some (.int most), some (.ref p.2), none, none, none] H1) := by
    refine ⟨_, pss_cons (ps_set (i := 3) scH_pick.nd rfl (.inl rfl) (pe_dget hu1 (pv 0) pe_str (fun _ _ => rfl)))
      (pss_cons (ps_if (pt_cmpR op_gt (pv 3) pe_int (nomark _)) (pss_cons (ps_dput hu1 (pv 0) pe_str (pe_op op_fdivW (pv 3) (pv 1)) rfl) (pss_one (ps_ret (pe_op op_mod (pe_callTy call_int1 (by rfl) mi PySem.Pv.boot_int (pa_cons (pv 3) pa_nil)) (pv 1))))) pss_nil)
      (pss_cons (ps_dput hu1 (pv 0) pe_str (pe_op op_add (pe_dget hu1 (pv 0) pe_str (fun _ _ => rfl)) pe_int) rfl)
      (pss_cons (ps_set (i := 4) scH_pick.nd rfl (.inl rfl) (pe_dget hu1 (pv 0) pe_str (fun _ _ => rfl)))
      (pss_cons (ps_set (i := 5) scH_pick.nd rfl (.inl rfl) (pe_op op_mod (pe_callTy call_int1 (by rfl) mi PySem.Pv.boot_int (pa_cons (pe_op op_add (pe_dget hu1 (pv 0) pe_str (fun _ _ => rfl)) (pe_op op_mul (pv 4) pe_int)) pa_nil)) pe_int))
      (pss_cons (ps_set (i := 5) scH_pick.nd rfl (.inl rfl) (pe_op op_mod (pe_callTy call_int1 (by rfl) mi PySem.Pv.boot_int (pa_cons (pe_op op_add (pe_op op_mul (pv 5) (pv 5)) (pe_op op_mul (pv 4) pe_int)) pa_nil)) pe_int))
      (pss_one (ps_ret (pe_op op_mod (pe_callTy call_int1 (by rfl) mi PySem.Pv.boot_int (pa_cons (pe_op op_fdivW (pv 5) pe_int) pa_nil)) (pv 1)))))))))
    , fun hm cells l H1 b1 pa => ?_⟩
    obtain ⟨hlog, q⟩ := q2 hm
    have md : ∀ x : Int, 0 ≤ x % most ∧ x % most < most := fun x => ⟨Int.emod_nonneg x (by omega), Int.emod_lt_of_pos x (by omega)⟩
    -- others = source['left']
    refine ⟨_, rfl, p.1, .int l, rfl, pa.g_left, ?_⟩
    -- others > 1
    refine ⟨_, rfl, l, 1, rfl, rfl, _, rfl, ite2 (fun e => ?_) (fun e => ?_)⟩
    · have hl : 1 < l := of_decide_eq_true e
      have hd : 0 ≤ l / most := Int.ediv_nonneg (by omega) (by omega)
      refine ⟨_, rfl, _, rfl, l, most, rfl, rfl, ⟨by omega, hlog⟩, _, rfl, p.1, _, rfl, pa.p_left _, ?_⟩
      refine ⟨_, rfl, .inl ⟨l, rfl, _, rfl, l, most, rfl, rfl, show (0 : Int) < most by omega, ?_⟩⟩
      exact q _ _ cells _ t (md l).1 (md l).2 b1.dk (pa.dk _ _ hd)
    · refine ⟨_, rfl, p.1, .int t, rfl, pa.g_turn, t, 1, rfl, rfl, _, rfl, p.1, _, rfl, pa.p_turn _, ?_⟩
      have pa2 := pa.dk l (t + 1) pa.l0
      have b2 : But p H (upd H1 p.1 (.dK (dS p.2 l m (t + 1)))) := b1.dk
      refine ⟨_, rfl, p.1, .int (t + 1), rfl, pa2.g_turn, ?_⟩
      refine ⟨_, rfl, p.1, .int m, rfl, pa2.g_mixed, _, rfl, t + 1, 104729, rfl, rfl, .inr (by decide), m, _, rfl, rfl, .inl ⟨_, rfl, _, 998244353, rfl, rfl, show (0 : Int) < 998244353 by decide, ?_⟩⟩
      refine ⟨_, rfl, _, rfl, _, _, rfl, rfl, .inl ?_, _, rfl, t + 1, 17, rfl, rfl, .inr (by decide), _, _, rfl, rfl, .inl ⟨_, rfl, _, 2147483647, rfl, rfl, show (0 : Int) < 2147483647 by decide, ?_⟩⟩
      · have h1 := Int.emod_nonneg (m + (t + 1) * 104729) (show (998244353 : Int) ≠ 0 by decide)
        have h2 := Int.emod_lt_of_pos (m + (t + 1) * 104729) (show (0 : Int) < 998244353 by decide)
        omega
      · refine ⟨_, rfl, _, 16, rfl, rfl, ⟨by decide, by decide⟩, .inl ⟨_, rfl, _, rfl, _, most, rfl, rfl, show (0 : Int) < most by omega, ?_⟩⟩
        exact q _ _ cells l (t + 1) (md _).1 (md _).2 b2 pa2
  obtain ⟨tt, ht, hq⟩ := tail
  refine ⟨_, pss_cons (ps_if (pt_cmpR op_lt (pv 1) pe_int (nomark _)) (pss_one (ps_ret pe_int)) pss_nil)
    (pss_cons (ps_set (i := 2) scH_pick.nd rfl (.inl rfl) (pe_dget hu1 (pv 0) pe_str (fun _ _ => rfl)))
    (pss_cons (ps_while PassesOwn.never (PW.pt (pw_and (pt_cmpR op_lt (pe_dget hu1 (pv 0) pe_str (fun _ _ => rfl)) pe_int (nomark _)) (pw_and1 (pt_cmpR op_gt (pe_callB call_len_seq (by rfl) ml PySem.boot_len (pa_cons (pv 2) pa_nil)) pe_int (nomark _)))))
       (pss_one (ps_dput hu1 (pv 0) pe_str (pe_bm0 PySem.F.plainAttrs_list PySem.F.slot_list_pop PySem.F.type_list_pop mt_pop (pv 2)) rfl))) ht)), ?_⟩
  -- most < 2
  refine ⟨_, rfl, most, 2, rfl, rfl, _, rfl, ite2 (fun e => q1 (of_decide_eq_true e)) (fun e => ?_)⟩
  have hm : 2 ≤ most := by
    have := of_decide_eq_false (by simpa using e : decide (most < 2) = false)
    omega
  -- cells = source['cells']
  refine ⟨_, rfl, p.1, .ref p.2, rfl, pa.g_cells, ?_⟩
  -- while
  refine ⟨fun n σ H' => ∃ cells l, n = cells.length ∧ σ = [some (.ref p.1), some (.int most), some (.ref p.2), none, none, none] ∧ But p H H' ∧ PAt H' p cells l m t, ⟨_, cells, l, rfl, rfl, But.refl, pa⟩, ?_⟩
  rintro n σ H1 ⟨cells, l, rfl, rfl, b1, pa⟩
  refine ⟨_, rfl, p.1, .int l, rfl, pa.g_left, l, 2, rfl, rfl, _, rfl, ite2 (fun e1 => ?_) (fun e1 => hq hm cells l H1 b1 pa)⟩
  refine ⟨_, rfl, p.2, _, rfl, .inl (SqL.of pa.c), _, 0, rfl, rfl, _, rfl, ite2 (fun e2 => ?_) (fun e2 => hq hm cells l H1 b1 pa)⟩
  have h2 : 0 < cells.length := by
    have := of_decide_eq_true e2
    rw [List.length_map] at this
    omega
  obtain ⟨init, x, rfl⟩ := last_of h2
  refine ⟨fun σ' H' => σ' = [some (.ref p.1), some (.int most), some (.ref p.2), none, none, none] ∧ But p H H' ∧ PAt H' p init x m t, fun σ' H' ⟨e3, b3, pa3⟩ => ⟨init.length, by simp, init, x, rfl, e3, b3, pa3⟩, ?_⟩
  have hx : 0 ≤ x := pa.pos x (by simp)
  refine ⟨_, rfl, .inl ⟨rfl, _, SqL.of pa.c⟩, p.2, _, .int x, rfl, rfl, pa.c, by simp, ?_⟩
  have pa3 := pa.pop
  have e4 : ((init ++ [x]).map V.int).dropLast = init.map V.int := by simp
  rw [e4]
  exact ⟨_, rfl, p.1, _, rfl, pa3.p_left x, rfl, b1.cc.dk, pa3.dk x t hx⟩
end

theorem scH_source : FnScope ["script", "stirred", "cell", "cells"] ["script"] (defScope s_law_source) := ⟨rfl, rfl, rfl, by decide +kernel, rfl, by decide +kernel, by decide +kernel⟩
def absD : D → D
  | .int i => .int (if i < 0 then -i else i)
  | d => d
section
variable {P : Program} {w : World} {K : PySem.W.Frag} {mg : Str → Option Value} {base : Heap}
theorem ok_source {f : Addr} {fd : FuncData} {k : Nat} (F : Fun K "_law_source" "_law_source" s_law_source f fd) (ma : mg "abs" = none) (mi : mg "int" = none) : FnG P w K mg base (k + 1) f fd ["script"] (spSource K) := by
  refine fnG_of F scH_source (fun vs H Q h => by obtain ⟨a, ns, rfl, _⟩ := h; rfl) fun cdv A outer s H vs Q hr hgd h => ?_
  obtain ⟨a, ns, rfl, hs, hl, q⟩ := h
  refine ⟨_, pss_cons (s_set (S := none) 1 scH_source.nd x_int)
    (pss_cons (s_for (S := none) (vs := [2]) PassesOwn.never rfl (i_scr 0) (g_name 2 scH_source.nd)
      (b_one (s_set 1 scH_source.nd (x_op s_mod (PEm.r (x_ty c_int (by rfl) mi (by rfl) (ar_cons (PEm.r (x_op s_add (PEm.r (x_op s_add (PEm.r (x_op s_times (PEm.r (xv 1)) (PEm.r x_int))) (PEm.r (x_op s_times (PEm.r (xv 2)) (PEm.r x_int))))) (PEm.r x_int))) ar_nil))) (PEm.r x_int)))))
    (pss_cons (s_ownLc (S := none) 3 [("cell", 2)] rfl scH_source.nd (i_scr 0) (show BlkOk ["script", "stirred", "cell", "cells"] (defScope s_law_source) _ _ from ⟨rfl, by decide +kernel, by decide +kernel, by decide +kernel, by decide +kernel⟩) (fun _ _ _ _ _ => g_name 2 scH_source.nd) (fun _ _ _ _ _ => ts_nil)
        (fun _ _ _ _ _ => x_bi c_abs (by rfl) ma (by rfl) (ar_cons (PEm.r (xv 2)) ar_nil)) (sw_true rfl rfl rfl (by decide +kernel)))
    (pss_one (ps_ret (pe_disp (pps_cons pe_str (pe_revL (pv 3)) (pps_cons pe_str pe_int (pps_cons pe_str (pv 1) (pps_cons pe_str pe_int pps_nil)))) rfl rfl (by simp) (by simp)))))), ?_⟩
  have hst : Stk K w none H H H (.scr ns :: List.replicate 3 .no) (L2.start ["script", "stirred", "cell", "cells"] [.ref a]) H := stk_scr hs rfl
  refine ⟨H, H, H, _, hst, wp_ret.mpr fun G1 σ1 H1 s1 st1 => ?_⟩
  refine ⟨H, H, G1, _, st1, ?_⟩
  -- the loop
  refine wp_for (fun ds ρ => (∀ d ∈ ds, ∃ i : Int, d = .int i) ∧ ∃ x y, ρ = [.scr ns, .val (.int x), y, .no] ∧ ∀ d, y ≠ .own d) ?_ ?_ _ _ ⟨fun d hd => ?_, 11, .no, rfl, fun _ e => nomatch e⟩
  · rintro d ds ρ ⟨hd, x, y, rfl, hy⟩
    obtain ⟨i, rfl⟩ := hd d List.mem_cons_self
    refine ⟨_, rfl, ?_⟩
    have e1 : small 69069 = true := by decide
    have e2 : small 31 = true := by decide
    simp [mSet, mOp, vVal, vC, mCall, aCons, aNil, M.bind, M.opt, gAdd, gMul, gC, gInt, e1, e2, wp]
    exact ⟨fun d hd' => hd d (List.mem_cons_of_mem _ hd'), _, _, ⟨rfl, rfl⟩, fun d e => nomatch e⟩
  · rintro ρ ⟨_, x, y, rfl, hy⟩ G2 σ2 H2 s2 st2
    have hc : mComp [2] (gN 2) (mScr 0) mYes (mCall gAbs (aCons (vVal 2) aNil)) [.scr ns, .val (.int x), y, .no] = .ret (.lst ((ns.map D.int).map absD)) :=
      comp_map absD rfl (by rw [List.length_map, sizeLine_eq]; omega) fun d hd => by
        obtain ⟨i, _, rfl⟩ := List.mem_map.mp hd
        exact ⟨_, rfl, rfl⟩
    refine ⟨H, H, G2, _, st2, ?_⟩
    refine wp_eq (own_ret hc) ?_
    intro G3 σ3 H3 s3 st3
    obtain ⟨v1, e1, r1⟩ := st3.slots 1 (.val (.int x)) rfl
    simp only [Rp] at r1
    subst r1
    obtain ⟨c, e3, hc0, hcG, vs, hcv, rvs⟩ := st3.slots 3 (.own (.lst ((ns.map D.int).map absD))) rfl
    have hab : (ns.map D.int).map absD = (ns.map fun i => if i < 0 then -i else i).map D.int := by
      rw [List.map_map, List.map_map]
      rfl
    rw [hab] at rvs
    have hints := rvs.ints
    subst hints
    intro p hp
    have np : c ≠ p := fun z => by rw [z, hp] at hcv; cases hcv
    refine ⟨_, e3, c, _, rfl, SqL.of (by rw [upd_ne np]; exact hcv), fun qq hq => ?_⟩
    have nqp : p ≠ qq := fun z => by rw [← z, upd_same] at hq; cases hq
    refine ⟨_, e1, ?_⟩
    refine ⟨by rw [upd_ne nqp, upd_same], [(.inr "cells", .ref qq), (.inr "left", .int 1), (.inr "mixed", .int x), (.inr "turn", .int 0)], rfl, (show (4 : Nat) ≤ 15 by omega), ?_⟩
    refine q (p, qq) ((ns.map fun i => if i < 0 then -i else i).reverse) 1 x 0 _ ⟨nqp, ?_, ?_, ?_, ?_, by decide⟩
    · rw [upd_same]
      rfl
    · rw [upd_ne nqp.symm, upd_same, List.map_reverse]
    · intro z hz
      rw [List.mem_reverse, List.mem_map] at hz
      obtain ⟨i, _, rfl⟩ := hz
      split <;> omega
    · simpa using hl
  · obtain ⟨i, _, rfl⟩ := List.mem_map.mp hd
    exact ⟨i, rfl⟩
end

theorem scH_mixed : FnScope ["source", "things", "others", "lap"] ["source", "things"] (defScope s_law_mixed) := ⟨rfl, rfl, rfl, by decide +kernel, rfl, by decide +kernel, by decide +kernel⟩
def popT : TE := fun σ H Q => ∃ p cells l m t o xs, σ[0]? = some (some (.ref p.1)) ∧ σ[2]? = some (some (.ref o)) ∧ o ≠ p.1 ∧ o ≠ p.2 ∧ PAt H p cells l m t ∧ H o = some (.lst xs) ∧ 0 < xs.length ∧ xs.length ≤ 100000 ∧
  ∀ i x H' cells' l' t', xs[i]? = some x → But p H H' → PAt H' p cells' l' m t' → Q x (upd H' o (.lst (xs.eraseIdx i)))
section
variable {P : Program} {w : World} {K : PySem.W.Frag} {mg : Str → Option Value} {base : Heap}
theorem seq_at {n i : Nat} (h : i < n) : seqIndex? (i : Int) n = some i := (ixN_seq (by unfold ixN; rw [if_pos (by omega), if_pos (by omega)]; rfl)).1
theorem ok_mixed {f fP : Addr} {fd fdP : FuncData} {k : Nat} (F : Fun K "_law_mixed" "_law_mixed" s_law_mixed f fd) (FP : FnG P w K mg base k fP fdP ["source", "most"] spPick) (gP : mg "_law_pick" = some (.ref fP)) (kP : PySem.W.keepIn K (.ref fP) = true) (bP : L2.Binds K fdP ["source", "most"] [])
    (ml : mg "len" = none) (mli : mg "list" = none) (mr : mg "range" = none) : FnM P w K mg base (k + 1) f fd ["source", "things"] true 1 mixFn := by
  refine fnG_of F scH_mixed (fun vs H Q h => by obtain ⟨S, G, ds, ws, _, hd, ⟨p, _, rfl⟩, rr, _⟩ := h; simp [rr.length, hd]) fun cdv A outer s H vs Q hr hgd h => ?_
  obtain ⟨S, G, ds, ws, wf, hd, ⟨p, hS, rfl⟩, rr, q⟩ := h
  subst hS
  refine ⟨_, pss_cons (s_own (S := some p) 2 scH_mixed.nd (x_ty c_list (by rfl) mli (by rfl) (ar_cons (PEm.r (xv 1)) ar_nil)))
    (pss_one (ps_ret (pe_lc (te := popT) (own := [("lap", 3)]) rfl scH_mixed.nd (pi_range1 (by rfl) mr (pa_cons (pe_callB call_len_seq (by rfl) ml PySem.boot_len (pa_cons (pv 2) pa_nil)) pa_nil))
      (show BlkOk ["source", "things", "others", "lap"] (defScope s_law_mixed) _ _ from ⟨rfl, by decide +kernel, by decide +kernel, by decide +kernel, by decide +kernel⟩)
      (fun _ _ _ _ _ => pg_name (i := 3) scH_mixed.nd rfl (.inl rfl)) (fun _ _ _ _ _ => pts_nil)
      (fun _ _ _ _ _ => (pe_bm PySem.F.plainAttrs_list PySem.F.slot_list_pop PySem.F.type_list_pop mt_popAt (pv 2) (pa_cons (pe_g FP hr hgd (by rfl) gP kP bP (pa_cons (pv 0) (pa_cons (pe_callB call_len_seq (by rfl) ml PySem.boot_len (pa_cons (pv 2) pa_nil)) pa_nil))) pa_nil)).imp ?_)))), ?_⟩
  · rintro σ H1 Q1 ⟨p, cells, l, m, t, o, xs, s0, s2, n1, n2, pa, ho, h0, hl, k⟩
    have fin : ∀ i H' cells' l' t', i < xs.length → But p H1 H' → PAt H' p cells' l' m t' → rPopAt (.ref o) [.int (i : Nat)] H' Q1 := fun i H' cells' l' t' hi b a =>
      ⟨o, xs, (i : Nat), i, xs[i], rfl, rfl, by rw [b o n1 n2]; exact ho, by omega, by omega, seq_at hi, List.getElem?_eq_getElem hi, k i _ H' cells' l' t' (List.getElem?_eq_getElem hi) b a⟩
    refine ⟨_, s2, .inl ⟨rfl, xs, SqL.of ho⟩, _, s0, _, s2, o, xs, rfl, .inl (SqL.of ho), p, cells, l, m, t, (xs.length : Nat), rfl, pa, fun hm => ?_, fun hm => ⟨log_small hl, fun i H' cells' l' t' hi1 hi2 b a => ?_⟩⟩
    · exact fin 0 H1 cells l t h0 But.refl pa
    · have := fin i.toNat H' cells' l' t' (by omega) b a
      rw [Int.toNat_of_nonneg hi1] at this
      exact this
  · have hlen : (V.ref p.1 :: ws).length ≤ 4 := by rw [List.length_cons, rr.length, hd]; decide
    have st := stk0 (K := K) (w := w) (S := some p) (src := true) (N := ["source", "things", "others", "lap"]) wf ⟨p, rfl, rfl⟩ rr hlen
    match ds, hd, q with
    | [d], _, q =>
      cases hseq : seqOf' d with
      | none =>
        have : mixFn [d] = .fail := by simp only [mixFn, hseq]
        rw [this] at q
        exact q.elim
      | some xs =>
        have hx : xs.length ≤ 100000 ∧ wp (M.any (fun r => ∃ rs, r = .lst rs ∧ rs.Perm xs) .ret) fun d => ∀ (v : V) (G' H' : Hp), Ext (some p) G H G' H' → Rp K w G' d v → Q v H' := by
          by_cases hz : xs.length ≤ 100000
          · have : mixFn [d] = .any (fun r => ∃ rs, r = .lst rs ∧ rs.Perm xs) .ret := by simp only [mixFn, hseq, if_pos hz]
            rw [this] at q
            exact ⟨hz, q⟩
          · have : mixFn [d] = .fail := by simp only [mixFn, hseq, if_neg hz]
            rw [this] at q
            exact q.elim
        obtain ⟨hz, q⟩ := hx
        have hg : gList [d] = some (.lst xs) := by
          cases d <;> simp only [seqOf', Option.some.injEq, reduceCtorEq] at hseq <;> subst hseq <;> rfl
        refine ⟨G, H, G, _, st, wp_eq (own_ret (d := .lst xs) ?_) ?_⟩
        · show M.opt (gList [d]) = _
          rw [hg]
          rfl
        intro G1 σ1 H1 s1 st1
        obtain ⟨p', hp', s0⟩ := st1.slots 0 .src rfl
        cases hp'
        obtain ⟨o, so, ho0, hoG, vs, hov, rvs⟩ := st1.slots 2 (.own (.lst xs)) rfl
        obtain ⟨cells, l, m, t, pa⟩ := st1.wf.src.pat rfl
        obtain ⟨cells0, l0, m0, t0, pa0⟩ := wf.src.pat rfl
        have n1 : o ≠ p.1 := fun z => by rw [z, pa0.d] at ho0; cases ho0
        have n2 : o ≠ p.2 := fun z => by rw [z, pa0.c] at ho0; cases ho0
        have hvl : vs.length = xs.length := rvs.length
        refine ⟨_, so, o, vs, rfl, .inl (SqL.of hov), (vs.length : Nat), rfl, by omega, by omega, fun D hD => ?_⟩
        have nD1 : D ≠ p.1 := fun z => by rw [z, pa.d] at hD; cases hD
        have nD2 : D ≠ p.2 := fun z => by rw [z, pa.c] at hD; cases hD
        have nDo : D ≠ o := fun z => by rw [z, hov] at hD; cases hD
        rw [Int.toNat_natCast]
        refine lc_range (lo := 0) (n := vs.length) (fun i H' => ∃ cells l t acc rest, PAt H' p cells l m t ∧ (∀ b, b ≠ p.1 → b ≠ p.2 → b ≠ o → b ≠ D → H' b = H1 b) ∧ H' o = some (.lst rest) ∧ H' D = some (.lst acc) ∧ (acc ++ rest).Perm vs ∧ acc.length = i)
          ⟨cells, l, t, [], vs, ⟨pa.ne, by rw [upd_ne nD1.symm]; exact pa.d, by rw [upd_ne nD2.symm]; exact pa.c, pa.pos, pa.len, pa.l0⟩, fun b _ _ _ h => upd_ne h, by rw [upd_ne nDo.symm]; exact hov, upd_same, List.Perm.refl _, rfl⟩ ?_ ?_
        · rintro i H2 hi ⟨cells, l, t, acc, rest, pa2, keep, ho2, hD2, pm, hacc⟩
          have hl2 : acc.length + rest.length = vs.length := by
            have := pm.length_eq
            rw [List.length_append] at this
            exact this
          refine ⟨?_, ?_⟩
          · show (L2.wipe _ [3]) = L2.wipe _ [3]
            simp [L2.wipe]
          unfold tYes
          simp only [if_true]
          refine ⟨p, cells, l, m, t, o, rest, ?_, ?_, n1, n2, pa2, ho2, by omega, by omega, fun j x H3 c3 l3 t3 hx b3 a3 => ?_⟩
          · simp [L2.wipe, s0]
          · simp [L2.wipe, so]
          · refine ⟨acc, ?_, ?_, c3, l3, t3, acc ++ [x], rest.eraseIdx j, ?_, ?_, ?_, upd_same, ?_, ?_⟩
            · rw [upd_ne nDo, b3 D nD1 nD2]
              exact hD2
            · rw [sizeLine_eq]
              omega
            · exact ⟨a3.ne, by rw [upd_ne nD1.symm, upd_ne n1.symm]; exact a3.d, by rw [upd_ne nD2.symm, upd_ne n2.symm]; exact a3.c, a3.pos, a3.len, a3.l0⟩
            · intro b h1 h2 h3 h4
              rw [upd_ne h4, upd_ne h3, b3 b h1 h2]
              exact keep b h1 h2 h3 h4
            · rw [upd_ne nDo.symm, upd_same]
            · exact perm_cut hx pm
            · simp [hacc]
        · rintro H2 ⟨cells, l, t, acc, rest, pa2, keep, ho2, hD2, pm, hacc⟩
          have hr0 : rest = [] := by
            have := pm.length_eq
            rw [List.length_append, hacc] at this
            exact List.eq_nil_of_length_eq_zero (by omega)
          subst hr0
          rw [List.append_nil] at pm
          obtain ⟨rs, pr, rrs⟩ := rvs.perm pm
          have hD0 : H D = none := st1.ext.fresh wf.src hD
          have hDG : G1 D = none := st1.wf.gh.free hD
          have ext2 : Ext (some p) G H G1 H2 := by
            refine ⟨st1.ext.gg, ⟨fun b u e => ?_, fun z hz => ?_, st1.wf.gs⟩, fun b u e n => ?_, st1.ext.new⟩
            · obtain ⟨g1, g2⟩ := st1.wf.gs p rfl
              rw [keep b (ne_of_none e g1) (ne_of_none e g2) (ne_of_none e hoG) (ne_of_none e hDG)]
              exact st1.wf.gh b u e
            · cases hz
              exact ⟨pa2.ne, cells, l, m, t, pa2.d, pa2.c, pa2.pos, pa2.len, pa2.l0⟩
            · obtain ⟨m1, m2⟩ := n p rfl
              rw [keep b m1 m2 (ne_of_none e ho0) (ne_of_none e hD0)]
              exact st1.ext.fr b u e n
          exact q (.lst rs) ⟨rs, rfl, pr⟩ (.ref D) _ H2 (ext2.freeze wf.src hD0 hDG hD2) (res_lst hDG rrs)
end
end R48

namespace R48
open PySem PySem.Spec PyProof.Rows L2 PL
/-! ### polynomials as lists -/
abbrev Pl := List (List Int × Int)
def getP (F : Pl) (k : List Int) : Int := ((F.find? fun x => decide (x.1 = k)).map (·.2)).getD 0
def putP (F : Pl) (k : List Int) (c : Int) : Pl := if (F.any fun x => decide (x.1 = k)) = true then F.map (fun x => if x.1 = k then (x.1, c) else x) else F ++ [(k, c)]
def addP (F : Pl) (k : List Int) (c : Int) : Pl := putP F k (getP F k + c)
theorem getP_put (F : Pl) (k m : List Int) (c : Int) : getP (putP F k c) m = if k = m then c else getP F m := by
  unfold putP
  split
  · rename_i h
    induction F with
    | nil => simp at h
    | cons x F ih =>
      by_cases hx : x.1 = k
      · by_cases hm : k = m
        · simp [getP, hx, hm]
        · have hxm : ¬ x.1 = m := fun e => hm (hx.symm.trans e)
          have : ∀ G : Pl, getP (G.map fun x => if x.1 = k then (x.1, c) else x) m = getP G m := by
            intro G
            induction G with
            | nil => rfl
            | cons y G ih2 =>
              by_cases hy : y.1 = k
              · have hym : ¬ y.1 = m := fun e => hm (hy.symm.trans e)
                have hkm : ¬ k = m := hm
                simp only [getP, List.map_cons, hy, if_true, List.find?_cons, hkm, decide_false, hym] at ih2 ⊢
                exact ih2
              · by_cases hym : y.1 = m
                · have hmk : ¬ m = k := fun e => hm e.symm
                  simp [getP, hym, hmk]
                · simp only [getP, List.map_cons, hy, if_false, List.find?_cons, hym, decide_false] at ih2 ⊢
                  exact ih2
          rw [this, if_neg hm]
      · have h' : (F.any fun x => decide (x.1 = k)) = true := by simpa [hx] using h
        have ih := ih h'
        by_cases hxm : x.1 = m
        · have hkm : ¬ k = m := fun e => hx (hxm.trans e.symm)
          have hmk : ¬ m = k := fun e => hkm e.symm
          simp [getP, hxm, hkm, hmk]
        · simp only [getP, List.map_cons, hx, if_false, List.find?_cons, hxm, decide_false] at ih ⊢
          exact ih
  · rename_i h
    have hk : ∀ x ∈ F, ¬ x.1 = k := by
      intro x hx e
      exact h (List.any_eq_true.mpr ⟨x, hx, by simp [e]⟩)
    by_cases hm : k = m
    · subst hm
      have : F.find? (fun x => decide (x.1 = k)) = none := List.find?_eq_none.mpr fun x hx => by simpa using hk x hx
      simp [getP, List.find?_append, this]
    · simp only [getP, List.find?_append, List.find?_cons, hm, decide_false, List.find?_nil, Option.or_none, if_false]
theorem getP_add (F : Pl) (k m : List Int) (c : Int) : getP (addP F k c) m = getP F m + if k = m then c else 0 := by
  unfold addP
  rw [getP_put]
  by_cases h : k = m
  · subst h
    simp
  · simp [h]
theorem putP_len (F : Pl) (k : List Int) (c : Int) : (putP F k c).length ≤ F.length + 1 := by
  unfold putP
  split <;> simp
theorem addP_len (F : Pl) (k : List Int) (c : Int) : (addP F k c).length ≤ F.length + 1 := putP_len _ _ _
theorem putP_nodup {F : Pl} (h : (F.map (·.1)).Nodup) (k : List Int) (c : Int) : ((putP F k c).map (·.1)).Nodup := by
  unfold putP
  split
  · have : (F.map (fun x => if x.1 = k then (x.1, c) else x)).map (·.1) = F.map (·.1) := by
      rw [List.map_map]
      refine List.map_congr_left fun x _ => ?_
      simp only [Function.comp]
      split <;> rfl
    rw [this]
    exact h
  · rename_i hn
    rw [List.map_append, List.nodup_append]
    refine ⟨h, by simp, fun x hx y hy e => hn ?_⟩
    simp only [List.map_cons, List.map_nil, List.mem_singleton] at hy
    subst hy
    obtain ⟨z, hz, e2⟩ := List.mem_map.mp hx
    exact List.any_eq_true.mpr ⟨z, hz, by simp [e2, e]⟩
/-! ### as data -/
def tupD (ks : List Int) : D := .tup (ks.map .int)
def keyN (ks : List Int) : NestedKey := .tup (ks.map .num)
def enc (F : Pl) : List (NestedKey × D) := F.map fun x => (keyN x.1, .int x.2)
theorem keys_ints : ∀ ks : List Int, D.keys (ks.map .int) = some (ks.map .num)
  | [] => by simp [D.keys]
  | k :: ks => by simp [D.keys, D.key, keys_ints ks]
theorem key_tup (ks : List Int) : D.key (tupD ks) = some (keyN ks) := by simp [tupD, keyN, D.key, keys_ints]
theorem of_ints : ∀ ks : List Int, ofKeys (ks.map .num) = ks.map .int
  | [] => by simp [ofKeys]
  | k :: ks => by simp [ofKeys, ofKey, of_ints ks]
theorem of_key (ks : List Int) : ofKey (keyN ks) = tupD ks := by simp [tupD, keyN, ofKey, of_ints]
theorem num_inj : ∀ {a b : List Int}, a.map NestedKey.num = b.map NestedKey.num → a = b
  | [], [], _ => rfl
  | [], _ :: _, h => by simp at h
  | _ :: _, [], h => by simp at h
  | a :: as, b :: bs, h => by
    simp only [List.map_cons, List.cons.injEq, NestedKey.num.injEq] at h
    rw [h.1, num_inj h.2]
theorem keyN_iff {a b : List Int} : keyN a = keyN b ↔ a = b := ⟨fun h => num_inj (by simpa [keyN] using h), fun h => by rw [h]⟩
theorem depth_nums : ∀ ks : List Int, NestedKey.depthAll (ks.map .num) = 0
  | [] => by simp [NestedKey.depthAll]
  | k :: ks => by simp [NestedKey.depthAll, NestedKey.depth, depth_nums ks]
theorem ktup_key (ks : List Int) : ktup (keyN ks) = true := by simp [ktup, keyN, NestedKey.depth, depth_nums]
theorem kok (k : List Int) (F : Pl) : kOk (keyN k) ((enc F).map (·.1)) = true := by
  have : ((enc F).map (·.1)).all ktup = true := by
    rw [List.all_eq_true]
    intro x hx
    obtain ⟨y, hy, rfl⟩ := List.mem_map.mp hx
    obtain ⟨z, _, rfl⟩ := List.mem_map.mp hy
    exact ktup_key _
  simp [kOk, ktup_key, this]
theorem at_enc (F : Pl) (k : List Int) : at2 (enc F) (keyN k) = (F.find? fun x => decide (x.1 = k)).map fun x => .int x.2 := by
  induction F with
  | nil => rfl
  | cons x F ih =>
    by_cases h : x.1 = k
    · simp [at2, enc, h]
    · have h' : ¬ keyN x.1 = keyN k := fun e => h (keyN_iff.mp e)
      simp only [at2, enc, List.map_cons, List.find?_cons, h', h, decide_false] at ih ⊢
      exact ih
theorem at_get (F : Pl) (k : List Int) : (at2 (enc F) (keyN k)).getD (.int 0) = .int (getP F k) := by
  rw [at_enc]
  unfold getP
  cases F.find? (fun x => decide (x.1 = k)) <;> rfl
theorem put_enc (F : Pl) (k : List Int) (c : Int) : put2 (enc F) (keyN k) (.int c) = enc (putP F k c) := by
  have e : ((enc F).any fun x => decide (x.1 = keyN k)) = F.any fun x => decide (x.1 = k) := by
    unfold enc
    rw [List.any_map]
    congr 1
    funext x
    simp [keyN_iff]
  unfold put2 putP
  rw [e]
  split
  · unfold enc
    rw [List.map_map, List.map_map]
    refine List.map_congr_left fun x _ => ?_
    by_cases h : x.1 = k
    · simp [h]
    · simp [h, keyN_iff]
  · simp [enc]
theorem get_enc (F : Pl) (k : List Int) : gGet (.dct (enc F)) [tupD k, .int 0] = some (.int (getP F k)) := by
  simp only [gGet, key_tup, Option.bind_some, kok, if_true, at_get]
theorem ix_enc {A : Pl} (hn : (A.map (·.1)).Nodup) {p : List Int} {a : Int} (h : (p, a) ∈ A) : gIx (.dct (enc A)) (tupD p) = some (.int a) := by
  have : A.find? (fun x => decide (x.1 = p)) = some (p, a) := by
    induction A with
    | nil => cases h
    | cons x A ih =>
      rw [List.map_cons, List.nodup_cons] at hn
      rcases List.mem_cons.mp h with e | e
      · subst e
        simp
      · have hx : ¬ x.1 = p := fun z => hn.1 (z ▸ List.mem_map.mpr ⟨_, e, rfl⟩)
        rw [List.find?_cons]
        simp only [hx, decide_false]
        exact ih hn.2 e
  simp only [gIx, key_tup, Option.bind_some, kok, if_true, at_enc, this, Option.map_some]
theorem sto_enc (F : Pl) (k : List Int) (c : Int) (h : F.length < sizeLine) : gSto (.dct (enc F)) (tupD k) (.int c) = some (.dct (enc (putP F k c))) := by
  simp only [gSto, key_tup, Option.bind_some, kok, put_enc]
  rw [if_pos]
  refine ⟨trivial, ?_⟩
  have := putP_len F k c
  simp only [enc, List.length_map]
  omega
/-! ### _law_product -/
def vadd (p q : List Int) : List Int := List.zipWith (· + ·) p q
def addD : D → D
  | .tup [.int a, .int b] => .int (a + b)
  | d => d
theorem zip_mem : ∀ {p q : List Int} {d : D}, d ∈ List.zipWith PL.pairD (p.map D.int) (q.map D.int) → ∃ a b, d = PL.pairD (.int a) (.int b)
  | [], _, _, h => by simp at h
  | _ :: _, [], _, h => by simp at h
  | a :: p, b :: q, d, h => by
    simp only [List.map_cons, List.zipWith_cons_cons, List.mem_cons] at h
    rcases h with h | h
    · exact ⟨a, b, h⟩
    · exact zip_mem h
theorem zip_add : ∀ (p q : List Int), (List.zipWith PL.pairD (p.map D.int) (q.map D.int)).map addD = (vadd p q).map D.int
  | [], _ => by simp [vadd]
  | _ :: _, [] => by simp [vadd]
  | a :: p, b :: q => by
    show D.int (a + b) :: (List.zipWith PL.pairD (p.map D.int) (q.map D.int)).map addD = D.int (a + b) :: (vadd p q).map D.int
    rw [zip_add p q]
def sumM : Rho → M D := mCall gTuple (aCons (mComp [6, 7] (gT 2 (gTc (gN 6) (gTc (gN 7) gTs))) (mZip2 (aCons (vVal 3) (aCons (vVal 4) aNil))) mYes (mOp gAdd (vVal 6) (vVal 7))) aNil)
theorem sum_ret {p q : List Int} {x0 x1 x2 x5 x6 x7 : PL.Slot} (hp : p.length ≤ 1000) : sumM [x0, x1, x2, .val (tupD p), .val (tupD q), x5, x6, x7] = .ret (tupD (vadd p q)) := by
  have hc : mComp [6, 7] (gT 2 (gTc (gN 6) (gTc (gN 7) gTs))) (mZip2 (aCons (vVal 3) (aCons (vVal 4) aNil))) mYes (mOp gAdd (vVal 6) (vVal 7)) [x0, x1, x2, .val (tupD p), .val (tupD q), x5, x6, x7] = .ret (.lst ((List.zipWith PL.pairD (p.map D.int) (q.map D.int)).map addD)) := by
    refine comp_map addD rfl ?_ fun d hd => ?_
    · rw [List.length_zipWith, List.length_map, sizeLine_eq]
      omega
    · obtain ⟨a, b, rfl⟩ := zip_mem hd
      exact ⟨_, rfl, rfl⟩
  rw [zip_add] at hc
  exact call_ret (cons_ret hc rfl) rfl
def stoM : Rho → M Out := mSto 2 (vVal 5) (mOp gAdd (mGet (vRd 2) (aCons (vVal 5) (aCons (vC (.int 0)) aNil))) (mOp gMul (mOp gIx (vVal 0) (vVal 3)) (mOp gIx (vVal 1) (vVal 4))))
theorem sto_ret {A B F : Pl} {p q s : List Int} {a b : Int} {x6 x7 : PL.Slot} (hA : (A.map (·.1)).Nodup) (hB : (B.map (·.1)).Nodup) (pa : (p, a) ∈ A) (qb : (q, b) ∈ B) (hb : small b = true) (hF : F.length < sizeLine) :
    stoM [.val (.dct (enc A)), .val (.dct (enc B)), .own (.dct (enc F)), .val (tupD p), .val (tupD q), .val (tupD s), x6, x7] = .ret (.nx [.val (.dct (enc A)), .val (.dct (enc B)), .own (.dct (enc (addP F s (a * b)))), .val (tupD p), .val (tupD q), .val (tupD s), x6, x7]) := by
  have e1 : mOp gAdd (mGet (vRd 2) (aCons (vVal 5) (aCons (vC (.int 0)) aNil))) (mOp gMul (mOp gIx (vVal 0) (vVal 3)) (mOp gIx (vVal 1) (vVal 4))) [.val (.dct (enc A)), .val (.dct (enc B)), .own (.dct (enc F)), .val (tupD p), .val (tupD q), .val (tupD s), x6, x7] = .ret (.int (getP F s + a * b)) := by
    simp [mOp, mGet, isDct, vRd, vVal, vC, aCons, aNil, M.bind, M.opt, get_enc, ix_enc hA pa, ix_enc hB qb, gMul, gAdd, hb]
  unfold stoM mSto
  rw [e1]
  simp only [M.bind, ownAt, List.getElem?_cons_succ, List.getElem?_cons_zero, vVal, sto_enc F s _ hF, M.opt]
  rfl
def inM : Rho → M Out := mSeq (mSet 5 sumM) stoM
theorem in_loop {A B : Pl} {p : List Int} {a : Int} (hA : (A.map (·.1)).Nodup) (hB : (B.map (·.1)).Nodup) (pa : (p, a) ∈ A) (hp : p.length ≤ 1000) (hb : ∀ x ∈ B, small x.2 = true) : ∀ (bs F : Pl) (s4 s5 : PL.Slot), (∀ x ∈ bs, x ∈ B) → F.length + bs.length ≤ sizeLine →
    ∃ s4' s5', forM (gN 4) inM (bs.map fun x => tupD x.1) [.val (.dct (enc A)), .val (.dct (enc B)), .own (.dct (enc F)), .val (tupD p), s4, s5, .no, .no] =
      .ret (.nx [.val (.dct (enc A)), .val (.dct (enc B)), .own (.dct (enc (bs.foldl (fun F x => addP F (vadd p x.1) (a * x.2)) F))), .val (tupD p), s4', s5', .no, .no])
  | [], F, s4, s5, _, _ => ⟨s4, s5, rfl⟩
  | x :: bs, F, s4, s5, h, hl => by
    rw [List.length_cons] at hl
    have hx := h x List.mem_cons_self
    obtain ⟨s4', s5', e⟩ := in_loop hA hB pa hp hb bs (addP F (vadd p x.1) (a * x.2)) (.val (tupD x.1)) (.val (tupD (vadd p x.1))) (fun y hy => h y (List.mem_cons_of_mem _ hy)) (by
      have := addP_len F (vadd p x.1) (a * x.2)
      omega)
    refine ⟨s4', s5', ?_⟩
    rw [List.map_cons, List.foldl_cons, ← e]
    have e2 : inM [.val (.dct (enc A)), .val (.dct (enc B)), .own (.dct (enc F)), .val (tupD p), .val (tupD x.1), s5, .no, .no] = .ret (.nx [.val (.dct (enc A)), .val (.dct (enc B)), .own (.dct (enc (addP F (vadd p x.1) (a * x.2)))), .val (tupD p), .val (tupD x.1), .val (tupD (vadd p x.1)), .no, .no]) := by
      unfold inM
      rw [seq_nx (set_ret (sum_ret hp))]
      exact sto_ret hA hB pa (by exact hx) (hb x hx) (by omega)
    exact for_cons rfl e2
def outM : Rho → M Out := mFor (gN 4) (fun ρ => ((vVal 1) ρ).bind itemsOf) inM
def rowP (B : Pl) (F : Pl) (x : List Int × Int) : Pl := B.foldl (fun F y => addP F (vadd x.1 y.1) (x.2 * y.2)) F
theorem rowP_len (B : Pl) (x : List Int × Int) (F : Pl) : (rowP B F x).length ≤ F.length + B.length := by
  unfold rowP
  induction B generalizing F with
  | nil => exact Nat.le_refl _
  | cons y B ih =>
    rw [List.foldl_cons]
    have h1 := ih (addP F (vadd x.1 y.1) (x.2 * y.2))
    have h2 := addP_len F (vadd x.1 y.1) (x.2 * y.2)
    rw [List.length_cons]
    omega
theorem out_loop {A B : Pl} (hA : (A.map (·.1)).Nodup) (hB : (B.map (·.1)).Nodup) (hA2 : ∀ x ∈ A, x.1.length ≤ 1000) (hb : ∀ x ∈ B, small x.2 = true) : ∀ (as F : Pl) (s3 s4 s5 : PL.Slot), (∀ x ∈ as, x ∈ A) → F.length + as.length * B.length ≤ sizeLine →
    ∃ s3' s4' s5', forM (gN 3) outM (as.map fun x => tupD x.1) [.val (.dct (enc A)), .val (.dct (enc B)), .own (.dct (enc F)), s3, s4, s5, .no, .no] =
      .ret (.nx [.val (.dct (enc A)), .val (.dct (enc B)), .own (.dct (enc (as.foldl (rowP B) F))), s3', s4', s5', .no, .no])
  | [], F, s3, s4, s5, _, _ => ⟨s3, s4, s5, rfl⟩
  | x :: as, F, s3, s4, s5, h, hl => by
    rw [List.length_cons, Nat.add_mul, Nat.one_mul] at hl
    have hx := h x List.mem_cons_self
    obtain ⟨s4', s5', e1⟩ := in_loop hA hB (show (x.1, x.2) ∈ A from hx) (hA2 x hx) hb B F s4 s5 (fun _ h => h) (by omega)
    obtain ⟨t3, t4, t5, e⟩ := out_loop hA hB hA2 hb as (rowP B F x) (.val (tupD x.1)) s4' s5' (fun y hy => h y (List.mem_cons_of_mem _ hy)) (by
      have := rowP_len B x F
      omega)
    refine ⟨t3, t4, t5, ?_⟩
    rw [List.map_cons, List.foldl_cons, ← e]
    have e2 : outM [.val (.dct (enc A)), .val (.dct (enc B)), .own (.dct (enc F)), .val (tupD x.1), s4, s5, .no, .no] = .ret (.nx [.val (.dct (enc A)), .val (.dct (enc B)), .own (.dct (enc (rowP B F x))), .val (tupD x.1), s4', s5', .no, .no]) := by
      refine for_ret (ds := B.map fun y => tupD y.1) ?_ e1
      show itemsOf (.dct (enc B)) = _
      simp [itemsOf, enc, of_key]
    exact for_cons rfl e2
def prodP (A B : Pl) : Pl := A.foldl (rowP B) []
theorem product_eq {A B : Pl} (hA : (A.map (·.1)).Nodup) (hB : (B.map (·.1)).Nodup) (hA2 : ∀ x ∈ A, x.1.length ≤ 1000) (hb : ∀ x ∈ B, small x.2 = true) (hl : A.length * B.length ≤ sizeLine) :
    fn_law_product [.dct (enc A), .dct (enc B)] = .ret (.dct (enc (prodP A B))) := by
  obtain ⟨s3, s4, s5, e⟩ := out_loop hA hB hA2 hb A [] .no .no .no (fun _ h => h) (by simpa using hl)
  have em : m_law_product = mSeq (mOwn 2 (vC (.dct []))) (mSeq (mFor (gN 3) (fun ρ => ((vVal 0) ρ).bind itemsOf) outM) (mFrz 2 (mRet (vVal 2)))) := rfl
  refine fnOf_ret ?_
  rw [em, seq_nx (own_ret rfl)]
  have e3 : mFor (gN 3) (fun ρ => ((vVal 0) ρ).bind itemsOf) outM [.val (.dct (enc A)), .val (.dct (enc B)), .own (.dct (enc [])), .no, .no, .no, .no, .no] = .ret (.nx [.val (.dct (enc A)), .val (.dct (enc B)), .own (.dct (enc (prodP A B))), s3, s4, s5, .no, .no]) := by
    refine for_ret (ds := A.map fun y => tupD y.1) ?_ e
    show itemsOf (.dct (enc A)) = _
    simp [itemsOf, enc, of_key]
  exact (seq_nx e3).trans rfl
end R48

namespace R48
open PySem PySem.Spec PyProof.Rows L2 PL
/-! ### the members of a product -/
def sumL {α : Type} (f : α → Int) (A : List α) : Int := (A.map f).sum
theorem sumL_nil {α : Type} (f : α → Int) : sumL f [] = 0 := rfl
theorem sumL_cons {α : Type} (f : α → Int) (a : α) (A : List α) : sumL f (a :: A) = f a + sumL f A := by simp [sumL]
theorem sumL_add {α : Type} (f g : α → Int) (A : List α) : sumL (fun x => f x + g x) A = sumL f A + sumL g A := by
  induction A with
  | nil => rfl
  | cons a A ih => rw [sumL_cons, sumL_cons, sumL_cons, ih]; omega
theorem sumL_zero {α : Type} (A : List α) : sumL (fun _ => 0) A = 0 := by
  induction A with
  | nil => rfl
  | cons a A ih => rw [sumL_cons, ih]; rfl
theorem sumL_mul {α : Type} (c : Int) (f : α → Int) (A : List α) : sumL (fun x => c * f x) A = c * sumL f A := by
  induction A with
  | nil => simp [sumL]
  | cons a A ih => rw [sumL_cons, sumL_cons, ih, Int.mul_add]
theorem sumL_congr {α : Type} {f g : α → Int} {A : List α} (h : ∀ x ∈ A, f x = g x) : sumL f A = sumL g A := by
  unfold sumL
  rw [List.map_congr_left h]
theorem sumL_swap {α β : Type} (f : α → β → Int) (A : List α) (B : List β) : sumL (fun x => sumL (f x) B) A = sumL (fun y => sumL (fun x => f x y) A) B := by
  induction A with
  | nil =>
    show (0 : Int) = sumL (fun _ => 0) B
    rw [sumL_zero]
  | cons a A ih =>
    rw [sumL_cons, ih, ← sumL_add]
    refine sumL_congr fun y _ => ?_
    rw [sumL_cons]
theorem get_row (B : Pl) (x : List Int × Int) (m : List Int) : ∀ F : Pl, getP (rowP B F x) m = getP F m + sumL (fun y => if vadd x.1 y.1 = m then x.2 * y.2 else 0) B := by
  unfold rowP
  induction B with
  | nil => intro F; simp [sumL]
  | cons y B ih =>
    intro F
    rw [List.foldl_cons, ih, getP_add, sumL_cons]
    omega
theorem get_rows (B : Pl) (m : List Int) : ∀ (A F : Pl), getP (A.foldl (rowP B) F) m = getP F m + sumL (fun x => sumL (fun y => if vadd x.1 y.1 = m then x.2 * y.2 else 0) B) A
  | [], F => by simp [sumL]
  | x :: A, F => by
    rw [List.foldl_cons, get_rows B m A, get_row, sumL_cons]
    omega
def vsub (p q : List Int) : List Int := List.zipWith (· - ·) p q
theorem vadd_iff : ∀ {p q m : List Int}, p.length = m.length → q.length = m.length → (vadd p q = m ↔ p = vsub m q)
  | [], [], [], _, _ => by simp [vadd, vsub]
  | a :: p, b :: q, c :: m, h1, h2 => by
    have ih := vadd_iff (p := p) (q := q) (m := m) (by simpa using h1) (by simpa using h2)
    simp only [vadd, vsub, List.zipWith_cons_cons, List.cons.injEq] at ih ⊢
    rw [ih]
    constructor
    · rintro ⟨e, e2⟩; exact ⟨by omega, e2⟩
    · rintro ⟨e, e2⟩; exact ⟨by omega, e2⟩
  | [], [], _ :: _, h, _ => by simp at h
  | [], _ :: _, _, h1, h2 => by rw [← h2] at h1; simp at h1
  | _ :: _, [], _, h1, h2 => by rw [← h2] at h1; simp at h1
  | _ :: _, _ :: _, [], h, _ => by simp at h
theorem sum_at {A : Pl} (hn : (A.map (·.1)).Nodup) (k : List Int) : sumL (fun x => if x.1 = k then x.2 else 0) A = getP A k := by
  induction A with
  | nil => rfl
  | cons x A ih =>
    rw [List.map_cons, List.nodup_cons] at hn
    rw [sumL_cons]
    by_cases h : x.1 = k
    · have : sumL (fun x => if x.1 = k then x.2 else 0) A = 0 := by
        refine (sumL_congr (g := fun _ => 0) fun y hy => if_neg fun e => hn.1 ?_).trans (sumL_zero A)
        rw [h, ← e]
        exact List.mem_map.mpr ⟨y, hy, rfl⟩
      rw [this, if_pos h]
      simp [getP, h]
    · rw [if_neg h, ih hn.2]
      simp [getP, h]
theorem get_prod {A B : Pl} {h : Nat} (hn : (A.map (·.1)).Nodup) (hA : ∀ x ∈ A, x.1.length = h) (hB : ∀ x ∈ B, x.1.length = h) {m : List Int} (hm : m.length = h) : getP (prodP A B) m = sumL (fun y => y.2 * getP A (vsub m y.1)) B := by
  unfold prodP
  rw [get_rows, sumL_swap]
  have e0 : getP [] m = 0 := rfl
  rw [e0, Int.zero_add]
  refine sumL_congr fun y hy => ?_
  rw [← sum_at hn, ← sumL_mul]
  refine sumL_congr fun x hx => ?_
  have := vadd_iff (p := x.1) (q := y.1) (m := m) (by rw [hA x hx, hm]) (by rw [hB y hy, hm])
  by_cases e : vadd x.1 y.1 = m
  · rw [if_pos e, if_pos (this.mp e), Int.mul_comm]
  · rw [if_neg e, if_neg (fun z => e (this.mpr z)), Int.mul_zero]
theorem row_nodup (B : Pl) (x : List Int × Int) : ∀ F : Pl, (F.map (·.1)).Nodup → ((rowP B F x).map (·.1)).Nodup := by
  unfold rowP
  induction B with
  | nil => exact fun _ h => h
  | cons y B ih => exact fun F h => ih _ (putP_nodup h _ _)
theorem prod_nodup (A B : Pl) : ((prodP A B).map (·.1)).Nodup := by
  have : ∀ (A F : Pl), (F.map (·.1)).Nodup → ((A.foldl (rowP B) F).map (·.1)).Nodup := by
    intro A
    induction A with
    | nil => exact fun _ h => h
    | cons x A ih => exact fun F h => ih _ (row_nodup B x F h)
  exact this A [] List.nodup_nil
theorem put_mem {F : Pl} {k : List Int} {c : Int} {x : List Int × Int} (h : x ∈ putP F k c) : x.1 = k ∨ ∃ y ∈ F, y.1 = x.1 := by
  unfold putP at h
  split at h
  · obtain ⟨y, hy, e⟩ := List.mem_map.mp h
    split at e
    · subst e
      exact .inr ⟨y, hy, rfl⟩
    · subst e
      exact .inr ⟨y, hy, rfl⟩
  · rcases List.mem_append.mp h with h | h
    · exact .inr ⟨x, h, rfl⟩
    · simp at h
      exact .inl (by rw [h])
theorem prod_lens {A B : Pl} {h : Nat} (hA : ∀ x ∈ A, x.1.length = h) (hB : ∀ x ∈ B, x.1.length = h) : ∀ x ∈ prodP A B, x.1.length = h := by
  have row : ∀ (bs F : Pl) (x : List Int × Int), x.1.length = h → (∀ y ∈ bs, y.1.length = h) → (∀ z ∈ F, z.1.length = h) → ∀ z ∈ rowP bs F x, z.1.length = h := by
    intro bs
    induction bs with
    | nil => exact fun F x _ _ hF z hz => hF z hz
    | cons y bs ih =>
      intro F x hx hy hF
      refine ih (addP F (vadd x.1 y.1) (x.2 * y.2)) x hx (fun w hw => hy w (List.mem_cons_of_mem _ hw)) fun z hz => ?_
      rcases put_mem hz with e | ⟨w, hw, e⟩
      · rw [e]
        simp [vadd, hx, hy y List.mem_cons_self]
      · rw [← e]
        exact hF w hw
  have rows : ∀ (as F : Pl), (∀ x ∈ as, x.1.length = h) → (∀ z ∈ F, z.1.length = h) → ∀ z ∈ as.foldl (rowP B) F, z.1.length = h := by
    intro as
    induction as with
    | nil => exact fun F _ hF => hF
    | cons x as ih => exact fun F hx hF => ih (rowP B F x) (fun w hw => hx w (List.mem_cons_of_mem _ hw)) (row B F x (hx x List.mem_cons_self) hB hF)
  exact rows A [] hA fun _ hz => nomatch hz
theorem prod_len (A B : Pl) : (prodP A B).length ≤ A.length * B.length := by
  have : ∀ (A F : Pl), (A.foldl (rowP B) F).length ≤ F.length + A.length * B.length := by
    intro A
    induction A with
    | nil => intro F; simp
    | cons x A ih =>
      intro F
      rw [List.foldl_cons, List.length_cons, Nat.add_mul, Nat.one_mul]
      have h1 := ih (rowP B F x)
      have h2 := rowP_len B x F
      omega
  have h := this A []
  unfold prodP
  simpa using h
end R48

namespace R48
open PySem PySem.Spec PyProof.Rows L2 PL
/-! ### _law_top for one, two, three numbers -/
def unit (h i : Nat) : List Int := (List.range h).map fun j => if i = j then 1 else 0
def units (h : Nat) : List (List Int) := (List.range h).map (unit h)
def vSub (h j i : Nat) (F : Pl) : Pl := prodP F [(unit h j, 1), (unit h i, -1)]
def V0 : Nat → Pl
  | 2 => vSub 2 1 0 [([0, 0], 1)]
  | 3 => vSub 3 2 1 (vSub 3 2 0 (vSub 3 1 0 [([0, 0, 0], 1)]))
  | h => [(List.replicate h 0, 1)]
def S0 (h : Nat) : Pl := (units h).map fun u => (u, 1)
def topA (h : Nat) : Rho → M Out := (mSeq (mSet 1 (mCall gLen (aCons (vVal 0) aNil))) (mSeq (mSet 2 (mComp [4] (gN 4) (mRng1 (aCons (vVal 1) aNil)) mYes (mCall gTuple (aCons (mComp [3] (gN 3) (mRng1 (aCons (vVal 1) aNil)) mYes (mCall gInt (aCons (mOp gEq (vVal 4) (vVal 3)) aNil))) aNil)))) (mSeq (mSet 5 (mDct (aCons (mOp gMul (mTup (aCons (vC (.int 0)) aNil)) (vVal 1)) (aCons (vC (.int 1)) aNil)))) (mFor (gN 3) (mRng1 (aCons (vVal 1) aNil)) (mFor (gN 4) (mRng1 (aCons (vVal 3) aNil)) (mSet 5 (mFn 2 fn_law_product (aCons (vVal 5) (aCons (mDct (aCons (mOp gIx (vVal 2) (vVal 3)) (aCons (vC (.int 1)) (aCons (mOp gIx (vVal 2) (vVal 4)) (aCons (mNeg (vC (.int 1))) aNil))))) aNil)))))))))
def lapM : Rho → M Out := (mSet 5 (mFn 2 fn_law_product (aCons (vVal 5) (aCons (mCall gDictP (aCons (mComp [7] (gN 7) (fun ρ => ((vVal 2) ρ).bind itemsOf) mYes (mTup (aCons (vVal 7) (aCons (vC (.int 1)) aNil)))) aNil)) aNil))))
def rngM : Rho → M (List D) := (mRng1 (aCons (mOp (gI fun i j => .int (i - j)) (mCall gSum (aCons (vVal 0) aNil)) (mOp (gC (fun _ j => decide (0 < j) && decide (j.natAbs.log2 < 9000)) fun i j => .int (i / j)) (mOp gMul (vVal 1) (mOp (gI fun i j => .int (i - j)) (vVal 1) (vC (.int 1)))) (vC (.int 2)))) aNil))
theorem seq_assoc (a b c : Rho → M Out) (ρ : Rho) : mSeq (mSeq a b) c ρ = mSeq a (mSeq b c) ρ := by
  unfold mSeq
  rw [bind_assoc]
  congr 1
  funext o
  cases o <;> rfl
theorem seq_congr {a b c : Rho → M Out} (h : ∀ ρ, b ρ = c ρ) (ρ : Rho) : mSeq a b ρ = mSeq a c ρ := by
  have : b = c := funext h
  rw [this]
theorem top_split (h : Nat) (ρ : Rho) : m_law_top ρ = mSeq (topA h) (mSeq (mFor (gN 6) rngM lapM) (mRet (mGet (vVal 5) (aCons (mCall gTuple (aCons (vVal 0) aNil)) (aCons (vC (.int 0)) aNil))))) ρ := by
  unfold topA
  rw [seq_assoc]
  refine seq_congr (fun ρ => ?_) ρ
  rw [seq_assoc]
  refine seq_congr (fun ρ => ?_) ρ
  rw [seq_assoc]
  refine seq_congr (fun ρ => ?_) ρ
  rfl
def namesD (h : Nat) : D := .lst ((units h).map tupD)
theorem topA1 (a : Int) : topA 1 [.val (tupD [a]), .no, .no, .no, .no, .no, .no, .no] = .ret (.nx [.val (tupD [a]), .val (.int 1), .val (namesD 1), .val (.int 0), .no, .val (.dct (enc (V0 1))), .no, .no]) := by kernel_rfl
theorem topA2 (a b : Int) : topA 2 [.val (tupD [a, b]), .no, .no, .no, .no, .no, .no, .no] = .ret (.nx [.val (tupD [a, b]), .val (.int 2), .val (namesD 2), .val (.int 1), .val (.int 0), .val (.dct (enc (V0 2))), .no, .no]) := by kernel_rfl
theorem topA3 (a b c : Int) : topA 3 [.val (tupD [a, b, c]), .no, .no, .no, .no, .no, .no, .no] = .ret (.nx [.val (tupD [a, b, c]), .val (.int 3), .val (namesD 3), .val (.int 2), .val (.int 1), .val (.dct (enc (V0 3))), .no, .no]) := by kernel_rfl
end R48

namespace R48
open PySem PySem.Spec PyProof.Rows L2 PL
/-! ### the laps -/
def st (h : Nat) (t : List Int) (s3 s4 : PL.Slot) (F : Pl) (s6 : PL.Slot) : Rho := [.val (tupD t), .val (.int h), .val (namesD h), s3, s4, .val (.dct (enc F)), s6, .no]
def argM : Rho → M (List D) := (aCons (vVal 5) (aCons (mCall gDictP (aCons (mComp [7] (gN 7) (fun ρ => ((vVal 2) ρ).bind itemsOf) mYes (mTup (aCons (vVal 7) (aCons (vC (.int 1)) aNil)))) aNil)) aNil))
theorem arg1 (t : List Int) (s3 s4 s6 : PL.Slot) (F : Pl) : argM (st 1 t s3 s4 F s6) = .ret [.dct (enc F), .dct (enc (S0 1))] := by kernel_rfl
theorem arg2 (t : List Int) (s3 s4 s6 : PL.Slot) (F : Pl) : argM (st 2 t s3 s4 F s6) = .ret [.dct (enc F), .dct (enc (S0 2))] := by kernel_rfl
theorem arg3 (t : List Int) (s3 s4 s6 : PL.Slot) (F : Pl) : argM (st 3 t s3 s4 F s6) = .ret [.dct (enc F), .dct (enc (S0 3))] := by kernel_rfl
def chP (h : Nat) : Nat → Pl
  | 0 => V0 h
  | n + 1 => prodP (chP h n) (S0 h)
structure HOkk (h : Nat) : Prop where
  arg : ∀ (t : List Int) (s3 s4 s6 : PL.Slot) (F : Pl), argM (st h t s3 s4 F s6) = .ret [.dct (enc F), .dct (enc (S0 h))]
  sn : ((S0 h).map (·.1)).Nodup
  sl : ∀ x ∈ S0 h, x.1.length = h
  s1 : ∀ x ∈ S0 h, small x.2 = true
  vn : ((V0 h).map (·.1)).Nodup
  vl : ∀ x ∈ V0 h, x.1.length = h
  h3 : h ≤ 3
  vz : (V0 h).length ≤ 8
theorem hk1 : HOkk 1 := ⟨arg1, by decide +kernel, by decide +kernel, by decide +kernel, by decide +kernel, by decide +kernel, by decide, by decide +kernel⟩
theorem hk2 : HOkk 2 := ⟨arg2, by decide +kernel, by decide +kernel, by decide +kernel, by decide +kernel, by decide +kernel, by decide, by decide +kernel⟩
theorem hk3 : HOkk 3 := ⟨arg3, by decide +kernel, by decide +kernel, by decide +kernel, by decide +kernel, by decide +kernel, by decide, by decide +kernel⟩
theorem ch_nodup {h : Nat} (k : HOkk h) : ∀ n, ((chP h n).map (·.1)).Nodup
  | 0 => k.vn
  | n + 1 => prod_nodup _ _
theorem ch_lens {h : Nat} (k : HOkk h) : ∀ n, ∀ x ∈ chP h n, x.1.length = h
  | 0 => k.vl
  | n + 1 => prod_lens (ch_lens k n) k.sl
theorem s0_len (h : Nat) : (S0 h).length = h := by simp [S0, units]
theorem ch_len {h : Nat} (k : HOkk h) : ∀ n, (chP h n).length ≤ 8 * 3 ^ n
  | 0 => by
    have := k.vz
    show (V0 h).length ≤ 8 * 3 ^ 0
    omega
  | n + 1 => by
    have h1 := prod_len (chP h n) (S0 h)
    rw [s0_len] at h1
    have h2 := ch_len k n
    have h3 : (chP h n).length * h ≤ 8 * 3 ^ n * 3 := Nat.mul_le_mul h2 k.h3
    have e : 8 * 3 ^ (n + 1) = 8 * 3 ^ n * 3 := by rw [Nat.pow_succ, Nat.mul_assoc]
    rw [e]
    exact Nat.le_trans h1 h3
theorem lap_eq {h n : Nat} (k : HOkk h) (hn : n ≤ 11) (t : List Int) (s3 s4 s6 : PL.Slot) : lapM (st h t s3 s4 (chP h n) s6) = .ret (.nx (st h t s3 s4 (chP h (n + 1)) s6)) := by
  have hz : (chP h n).length * (S0 h).length ≤ sizeLine := by
    have h2 := ch_len k n
    have h4 : 8 * 3 ^ n ≤ 8 * 3 ^ 11 := Nat.mul_le_mul_left 8 (Nat.pow_le_pow_right (by decide) hn)
    have h5 : (chP h n).length * (S0 h).length ≤ (8 * 3 ^ 11) * 3 := Nat.mul_le_mul (Nat.le_trans h2 h4) (by rw [s0_len]; exact k.h3)
    rw [sizeLine_eq]
    omega
  have e := product_eq (ch_nodup k n) k.sn (fun x hx => by rw [ch_lens k n x hx]; have := k.h3; omega) k.s1 hz
  exact set_ret (fn_ret (k.arg t s3 s4 s6 (chP h n)) rfl e)
theorem laps {h : Nat} (k : HOkk h) (t : List Int) (s3 s4 : PL.Slot) : ∀ (ds : List D) (n : Nat) (s6 : PL.Slot), n + ds.length ≤ 12 → ∃ s6', forM (gN 6) lapM ds (st h t s3 s4 (chP h n) s6) = .ret (.nx (st h t s3 s4 (chP h (n + ds.length)) s6'))
  | [], n, s6, _ => ⟨s6, rfl⟩
  | d :: ds, n, s6, hl => by
    rw [List.length_cons] at hl
    obtain ⟨s6', e⟩ := laps k t s3 s4 ds (n + 1) (.val d) (by omega)
    refine ⟨s6', ?_⟩
    rw [for_cons (ρ1 := st h t s3 s4 (chP h n) (.val d)) rfl (lap_eq k (by omega) t s3 s4 (.val d)), e, List.length_cons, show n + 1 + ds.length = n + (ds.length + 1) by omega]
/-! ### the closed form -/
def fct : Nat → Nat
  | 0 => 1
  | n + 1 => (n + 1) * fct n
def off (h : Nat) : Int := (h * (h - 1) / 2 : Nat)
def difs : List Int → Int
  | [] => 1
  | a :: r => (r.map fun b => b - a).foldl (· * ·) 1 * difs r
def cf (m : List Int) : Int := if m.any (· < 0) = true then 0 else if m.sum < off m.length then 0 else (fct (m.sum - off m.length).toNat : Int) * difs m / ((m.map fun a => fct a.toNat).foldl (· * ·) 1 : Nat)
def box (bd : Nat) : Nat → List (List Int)
  | 0 => [[]]
  | h + 1 => (List.range (bd + 1)).flatMap fun (a : Nat) => (box bd h).map fun r => Int.ofNat a :: r
theorem box_mem {bd : Nat} : ∀ (m : List Int), (∀ x ∈ m, 0 ≤ x ∧ x ≤ bd) → m ∈ box bd m.length
  | [], _ => by simp [box]
  | a :: m, h => by
    have ha := h a List.mem_cons_self
    rw [List.length_cons, box, List.mem_flatMap]
    refine ⟨a.toNat, List.mem_range.mpr (by omega), List.mem_map.mpr ⟨m, box_mem m fun x hx => h x (List.mem_cons_of_mem _ hx), ?_⟩⟩
    show ((a.toNat : Nat) : Int) :: m = a :: m
    rw [Int.toNat_of_nonneg ha.1]
def baseB (h bd : Nat) : Bool := (box bd h).all fun m => decide (getP (V0 h) m = if m.sum = off h then cf m else 0)
def stepB (h bd : Nat) : Bool := (box bd h).all fun m => decide (m.sum ≤ off h) || decide (cf m = sumL (fun u => cf (vsub m u)) (units h))
theorem base1 : baseB 1 8 = true := by decide +kernel
theorem base2 : baseB 2 6 = true := by decide +kernel
theorem base3 : baseB 3 5 = true := by decide +kernel
theorem step1 : stepB 1 8 = true := by decide +kernel
theorem step2 : stepB 2 6 = true := by decide +kernel
theorem step3 : stepB 3 5 = true := by decide +kernel
end R48

namespace R48
open PySem PySem.Spec PyProof.Rows L2 PL
theorem vsub_len : ∀ {m u : List Int}, u.length = m.length → (vsub m u).length = m.length
  | m, u, h => by simp [vsub, h]
theorem vsub_le : ∀ {m u : List Int} {bd : Int}, (∀ x ∈ u, 0 ≤ x) → (∀ x ∈ m, x ≤ bd) → ∀ x ∈ vsub m u, x ≤ bd
  | [], _, _, _, _, x, hx => by simp [vsub] at hx
  | _ :: _, [], _, _, _, x, hx => by simp [vsub] at hx
  | a :: m, b :: u, bd, hu, hm, x, hx => by
    simp only [vsub, List.zipWith_cons_cons, List.mem_cons] at hx
    rcases hx with e | hx
    · have h1 := hu b List.mem_cons_self
      have h2 := hm a List.mem_cons_self
      omega
    · exact vsub_le (fun y hy => hu y (List.mem_cons_of_mem _ hy)) (fun y hy => hm y (List.mem_cons_of_mem _ hy)) x hx
theorem vsub_sum : ∀ {m u : List Int}, u.length = m.length → (vsub m u).sum = m.sum - u.sum
  | [], [], _ => rfl
  | [], _ :: _, h => by simp at h
  | _ :: _, [], h => by simp at h
  | a :: m, b :: u, h => by
    have ih := vsub_sum (m := m) (u := u) (by simpa using h)
    simp only [vsub, List.zipWith_cons_cons, List.sum_cons] at ih ⊢
    omega
theorem vsub_neg : ∀ {m u : List Int}, u.length = m.length → (∀ x ∈ u, 0 ≤ x) → m.any (· < 0) = true → (vsub m u).any (· < 0) = true
  | [], _, _, _, h => by simp at h
  | _ :: _, [], h, _, _ => by simp at h
  | a :: m, b :: u, hl, hu, h => by
    simp only [List.any_cons, Bool.or_eq_true, decide_eq_true_eq] at h
    simp only [vsub, List.zipWith_cons_cons, List.any_cons, Bool.or_eq_true, decide_eq_true_eq]
    rcases h with h | h
    · have := hu b List.mem_cons_self
      left
      omega
    · right
      exact vsub_neg (by simpa using hl) (fun y hy => hu y (List.mem_cons_of_mem _ hy)) h
theorem cf_neg {m : List Int} (h : m.any (· < 0) = true) : cf m = 0 := by
  unfold cf
  rw [if_pos h]
theorem getP_none {F : Pl} {m : List Int} (h : ∀ x ∈ F, x.1 ≠ m) : getP F m = 0 := by
  have : F.find? (fun x => decide (x.1 = m)) = none := List.find?_eq_none.mpr fun x hx => by simpa using h x hx
  simp [getP, this]
structure Chk (h bd : Nat) : Prop where
  k : HOkk h
  b : baseB h bd = true
  s : stepB h bd = true
  v : (V0 h).all (fun x => x.1.all fun y => decide (0 ≤ y)) = true
  u : (units h).all (fun x => (x.all fun y => decide (0 ≤ y)) && decide (x.length = h) && decide (x.sum = 1)) = true
theorem chk1 : Chk 1 8 := ⟨hk1, base1, step1, by decide +kernel, by decide +kernel⟩
theorem chk2 : Chk 2 6 := ⟨hk2, base2, step2, by decide +kernel, by decide +kernel⟩
theorem chk3 : Chk 3 5 := ⟨hk3, base3, step3, by decide +kernel, by decide +kernel⟩
theorem in_box {h bd : Nat} {m : List Int} (hl : m.length = h) (hb : ∀ x ∈ m, x ≤ bd) (hn : ¬ m.any (· < 0) = true) : m ∈ box bd h := by
  subst hl
  refine box_mem m fun x hx => ⟨?_, hb x hx⟩
  by_cases h0 : 0 ≤ x
  · exact h0
  · exact absurd (List.any_eq_true.mpr ⟨x, hx, by simpa using (by omega : x < 0)⟩) hn
theorem ch_get {h bd : Nat} (c : Chk h bd) : ∀ (n : Nat) (m : List Int), m.length = h → (∀ x ∈ m, x ≤ bd) → getP (chP h n) m = if m.sum = n + off h then cf m else 0
  | 0, m, hl, hb => by
    by_cases hn : m.any (· < 0) = true
    · rw [cf_neg hn, getP_none]
      · simp
      · intro x hx e
        have h1 := List.all_eq_true.mp c.v x hx
        obtain ⟨y, hy, hy0⟩ := List.any_eq_true.mp hn
        have h2 := List.all_eq_true.mp h1 y (by rw [e]; exact hy)
        have h3 := of_decide_eq_true h2
        have h4 := of_decide_eq_true hy0
        omega
    · have := of_decide_eq_true (List.all_eq_true.mp c.b m (in_box hl hb hn))
      show getP (V0 h) m = _
      rw [this]
      simp
  | n + 1, m, hl, hb => by
    have hu : ∀ u ∈ units h, (∀ y ∈ u, 0 ≤ y) ∧ u.length = m.length ∧ u.sum = 1 := fun u hu => by
      have := List.all_eq_true.mp c.u u hu
      simp only [Bool.and_eq_true, decide_eq_true_eq, List.all_eq_true] at this
      exact ⟨this.1.1, this.1.2.trans hl.symm, this.2⟩
    have e1 : getP (chP h (n + 1)) m = sumL (fun u => getP (chP h n) (vsub m u)) (units h) := by
      show getP (prodP (chP h n) (S0 h)) m = _
      rw [get_prod (ch_nodup c.k n) (ch_lens c.k n) c.k.sl hl]
      unfold S0 sumL
      rw [List.map_map]
      congr 1
      refine List.map_congr_left fun u _ => ?_
      simp
    have e2 : sumL (fun u => getP (chP h n) (vsub m u)) (units h) = sumL (fun u => if m.sum = (n + 1 : Nat) + off h then cf (vsub m u) else 0) (units h) := by
      refine sumL_congr fun u hu' => ?_
      obtain ⟨u0, ul, us⟩ := hu u hu'
      rw [ch_get c n (vsub m u) (by rw [vsub_len ul, hl]) (vsub_le u0 hb), vsub_sum ul, us]
      by_cases e : m.sum = (n + 1 : Nat) + off h
      · rw [if_pos e, if_pos (by omega)]
      · rw [if_neg e, if_neg (by omega)]
    rw [e1, e2]
    by_cases e : m.sum = (n + 1 : Nat) + off h
    · simp only [if_pos e]
      by_cases hn : m.any (· < 0) = true
      · rw [cf_neg hn]
        rw [← sumL_zero (units h)]
        exact sumL_congr fun u hu' => cf_neg (vsub_neg (hu u hu').2.1 (hu u hu').1 hn)
      · have := List.all_eq_true.mp c.s m (in_box hl hb hn)
        simp only [Bool.or_eq_true, decide_eq_true_eq] at this
        rcases this with h1 | h1
        · omega
        · exact h1.symm
    · simp only [if_neg e]
      exact sumL_zero _
theorem rng_ret {h : Nat} (hh : h = 1 ∨ h = 2 ∨ h = 3) (t : List Int) (s3 s4 s6 : PL.Slot) (F : Pl) (h0 : off h ≤ t.sum) (h1 : t.sum ≤ 100) : rngM (st h t s3 s4 F s6) = .ret (rangeD 0 (t.sum - off h).toNat) := by
  have es : mCall gSum (aCons (vVal 0) aNil) (st h t s3 s4 F s6) = .ret (.int t.sum) := call_ret (cons_ret (x := tupD t) rfl rfl) (by simp [gSum, tupD, intsD_map])
  have eo : mOp (gC (fun _ j => decide (0 < j) && decide (j.natAbs.log2 < 9000)) fun i j => .int (i / j)) (mOp gMul (vVal 1) (mOp (gI fun i j => .int (i - j)) (vVal 1) (vC (.int 1)))) (vC (.int 2)) (st h t s3 s4 F s6) = .ret (.int (off h)) := by
    rcases hh with rfl | rfl | rfl <;> kernel_rfl
  have ed := op_ret (g := (gI fun i j => .int (i - j))) es eo rfl
  have hb : big (t.sum - off h) = true := by
    have ho : off h ≤ 100 := by omega
    have ho0 : 0 ≤ off h := Int.natCast_nonneg _
    simp only [big, Bool.and_eq_true, decide_eq_true_eq]
    omega
  unfold rngM mRng1
  rw [cons_ret ed rfl, ret_bind]
  simp only [hb, if_true]
theorem top_ret {h bd : Nat} (c : Chk h bd) (hh : h = 1 ∨ h = 2 ∨ h = 3) (t : List Int) (hl : t.length = h) (hb : ∀ x ∈ t, x ≤ bd) (h0 : off h ≤ t.sum) (h1 : t.sum ≤ off h + 12) (s3 s4 : PL.Slot)
    (eA : topA h [.val (tupD t), .no, .no, .no, .no, .no, .no, .no] = .ret (.nx (st h t s3 s4 (V0 h) .no))) : fn_law_top [tupD t] = .ret (.int (cf t)) := by
  have ho : off h ≤ 3 := by rcases hh with rfl | rfl | rfl <;> decide
  obtain ⟨s6, e⟩ := laps c.k t s3 s4 (rangeD 0 (t.sum - off h).toNat) 0 .no (by
    simp [rangeD]
    omega)
  refine fnOf_ret ?_
  show m_law_top [.val (tupD t), .no, .no, .no, .no, .no, .no, .no] = _
  rw [top_split h, seq_nx eA, seq_nx (for_ret (rng_ret hh t s3 s4 .no (V0 h) h0 (by omega)) e)]
  refine ret_ret ?_
  have hlen : (rangeD 0 (t.sum - off h).toNat).length = (t.sum - off h).toNat := by simp [rangeD]
  rw [hlen, Nat.zero_add]
  have eg := ch_get c (t.sum - off h).toNat t hl hb
  rw [if_pos (by omega)] at eg
  unfold mGet
  show (M.opt (gGet (.dct (enc (chP h (t.sum - off h).toNat))) [tupD t, .int 0])) = _
  rw [get_enc, eg]
  rfl
end R48

namespace R48
open PySem PySem.Spec PyProof.Rows L2 PL
def if1 : Rho → M Out := (mIfS (mB (mOp gNe (mCall gRepr (aCons (mFn 1 fntop_number (aCons (vVal 4) aNil)) aNil)) (mCall gRepr (aCons (mFn 1 fn_law_top (aCons (vVal 4) aNil)) aNil)))) (mRet (vC (.bl false))) mSkip)
def if2 : Rho → M Out := (mIfS (mAnd (mB (mOp (gI fun i j => .bl (decide (j < i))) (vVal 3) (vC (.int 1)))) (mB (mOp gNe (mFn 1 fntop_number (aCons (mOp gAdd (mTup (aCons (mOp gIx (vVal 4) (vC (.int 1))) (aCons (mOp gIx (vVal 4) (vC (.int 0))) aNil))) (mSl gSl (vVal 4) (mP (vC (.int 2))) mNoP)) aNil)) (mOp (gI fun i j => .int (i - j)) (vC (.int 0)) (mFn 1 fntop_number (aCons (vVal 4) aNil)))))) (mRet (vC (.bl false))) mSkip)
def rest1 : Rho → M Out := (mSeq (mSet 4 (mCall gTuple (aCons (mSl gSl (mFnS 1 1 mixFn (aCons (mRgL (aCons (mOp gIx (mLst (aCons (vC (.int 9)) (aCons (vC (.int 7)) (aCons (vC (.int 6)) aNil)))) (mOp (gI fun i j => .int (i - j)) (vVal 3) (vC (.int 1)))) aNil)) aNil)) mNoP (mP (vVal 3))) aNil))) (mSeq (mIfS (mB (mOp gNe (mCall gRepr (aCons (mFn 1 fntop_number (aCons (vVal 4) aNil)) aNil)) (mCall gRepr (aCons (mFn 1 fn_law_top (aCons (vVal 4) aNil)) aNil)))) (mRet (vC (.bl false))) mSkip) (mIfS (mAnd (mB (mOp (gI fun i j => .bl (decide (j < i))) (vVal 3) (vC (.int 1)))) (mB (mOp gNe (mFn 1 fntop_number (aCons (mOp gAdd (mTup (aCons (mOp gIx (vVal 4) (vC (.int 1))) (aCons (mOp gIx (vVal 4) (vC (.int 0))) aNil))) (mSl gSl (vVal 4) (mP (vC (.int 2))) mNoP)) aNil)) (mOp (gI fun i j => .int (i - j)) (vC (.int 0)) (mFn 1 fntop_number (aCons (vVal 4) aNil)))))) (mRet (vC (.bl false))) mSkip)))
def rest2 : Rho → M Out := (mSeq (mSet 4 (mFn 3 fntold_powers (aCons (vVal 5) (aCons (vVal 6) (aCons (vVal 3) aNil))))) (mSeq (mSet 7 (mOp (gI fun i j => .int (i - j)) (mCall gSum (aCons (vVal 4) aNil)) (mOp (gC (fun _ j => decide (0 < j) && decide (j.natAbs.log2 < 9000)) fun i j => .int (i / j)) (mOp gMul (vVal 3) (mOp (gI fun i j => .int (i - j)) (vVal 3) (vC (.int 1)))) (vC (.int 2))))) (mSeq (mIfS (mOr (mNot (mB (mIsi "tuple" (vVal 4)))) (mOr (mB (mOp gNe (mCall gLen (aCons (vVal 4) aNil)) (vVal 3))) (mB (mOp gNe (mComp [8] (gN 8) (mRng2 (aCons (vC (.int 1)) (aCons (vVal 3) aNil))) (mB (mOp (gI fun i j => .bl (decide (i ≤ j))) (mOp gIx (vVal 4) (vVal 8)) (mOp gIx (vVal 4) (mOp (gI fun i j => .int (i - j)) (vVal 8) (vC (.int 1)))))) (vVal 8)) (mLst aNil))))) (mRet (vC (.bl false))) mSkip) (mSeq (mIfS (mOr (mB (mOp (gI fun i j => .bl (decide (i < j))) (mOp gIx (vVal 4) (vC (.int 0))) (vC (.int 0)))) (mOr (mB (mOp (gI fun i j => .bl (decide (j < i))) (mOp gIx (vVal 4) (mNeg (vC (.int 1)))) (mOp (gI fun i j => .int (i - j)) (vVal 6) (vC (.int 1))))) (mOr (mB (mOp gNe (vVal 7) (mCall gMin2 (aCons (mOp (gI fun i j => .int (i - j)) (vVal 5) (vC (.int 1))) (aCons (mOp gMul (vVal 3) (mOp (gI fun i j => .int (i - j)) (vVal 6) (vVal 3))) aNil))))) (mB (mOp gEq (mOp (gC (fun _ j => decide (0 < j)) fun i j => .int (i % j)) (mCall gInt (aCons (mFn 1 fntop_number (aCons (vVal 4) aNil)) aNil)) (vVal 5)) (vC (.int 0))))))) (mRet (vC (.bl false))) mSkip) (mSeq (mIfS (mAnd (mB (mOp (gI fun i j => .bl (decide (i < j))) (mOp gMul (vVal 3) (mOp (gI fun i j => .int (i - j)) (vVal 6) (vVal 3))) (vVal 5))) (mB (mOp gNe (vVal 4) (mCall gTuple (aCons (mRgL (aCons (mOp (gI fun i j => .int (i - j)) (vVal 6) (vVal 3)) (aCons (vVal 6) aNil))) aNil))))) (mRet (vC (.bl false))) mSkip) (mSeq (mOwn 9 (mRgL (aCons (vVal 3) aNil))) (mSeq (mFor (gN 10) (mRng1 (aCons (mIf (mB (mOp (gI fun i j => .bl (decide (j ≤ i))) (mOp gMul (vVal 3) (mOp (gI fun i j => .int (i - j)) (vVal 6) (vVal 3))) (vVal 5))) (vVal 7) (vC (.int 0))) aNil)) (mKill [2, 8, 10, 11] (mSeq (mSet 11 (mComp [8] (gN 8) (mRng1 (aCons (vVal 3) aNil)) (mB (mOp (gI fun i j => .bl (decide (i < j))) (mOp gAdd (mOp gIx (vRd 9) (vVal 8)) (vC (.int 1))) (mIf (mB (mOp (gI fun i j => .bl (decide (i < j))) (mOp gAdd (vVal 8) (vC (.int 1))) (vVal 3))) (mOp gIx (vRd 9) (mOp gAdd (vVal 8) (vC (.int 1)))) (vVal 6)))) (vVal 8))) (mSto 9 (mOp gIx (vVal 11) (mNeg (vC (.int 1)))) (mOp gAdd (mOp gIx (vRd 9) (mOp gIx (vVal 11) (mNeg (vC (.int 1))))) (vC (.int 1))))))) (mIfS (mAnd (mB (mOp (gI fun i j => .bl (decide (j ≤ i))) (mOp gMul (vVal 3) (mOp (gI fun i j => .int (i - j)) (vVal 6) (vVal 3))) (vVal 5))) (mB (mOp gNe (vVal 4) (mCall gTuple (aCons (vRd 9) aNil))))) (mRet (vC (.bl false))) mSkip))))))))
def lastM : Rho → M Out := (mRet (fun ρ => ((mOp gEq (mFn 1 fntop_number (aCons (mTup (aCons (vC (.int 1)) (aCons (vC (.int 3)) aNil))) aNil)) (vC (.int 2))) ρ).bind fun x => (toB x).bind fun c => if c = true then (mOp gEq (mFn 3 fntold_powers (aCons (vC (.int 5)) (aCons (vC (.int 5)) (aCons (vC (.int 2)) aNil)))) (mTup (aCons (vC (.int 1)) (aCons (vC (.int 4)) aNil)))) ρ else .ret (.bl false)))

def isI (m : M D) (i : Int) : Bool := match m with
  | .ret (.int j) => decide (i = j)
  | _ => false
theorem isI_ok {m : M D} {i : Int} (h : isI m i = true) : m = .ret (.int i) := by
  unfold isI at h
  split at h
  · rw [of_decide_eq_true h]
  · cases h
def rne (c : Int) : Bool := match gRepr [.int c] with
  | some s => match gNe s s with
    | some (.bl b) => !b
    | _ => false
  | none => false
theorem rne_ok {c : Int} (h : rne c = true) : ∃ s, gRepr [.int c] = some s ∧ gNe s s = some (.bl false) := by
  unfold rne at h
  split at h
  · rename_i s e
    split at h
    · rename_i b e2
      cases b
      · exact ⟨s, e, e2⟩
      · cases h
    · cases h
  · cases h
def rt (h : Nat) (t : List Int) : Rho := [.no, .src, .no, .val (.int h), .val (tupD t), .no, .no, .no, .no, .no, .no, .no]
def tB (h bd : Nat) : Bool := (box bd h).all fun t => !(decide t.Nodup) || (isI (fntop_number [tupD t]) (cf t) && rne (cf t) && isNx 10 (if2 (rt h t)) && decide (off h ≤ t.sum) && decide (t.sum ≤ off h + 12))
theorem tB1 : tB 1 8 = true := by decide +kernel
theorem tB2 : tB 2 6 = true := by decide +kernel
theorem tB3 : tB 3 5 = true := by decide +kernel
def r2 (p k h : Nat) : Rho := [.no, .src, .no, .val (.int h), .no, .val (.int p), .val (.int k), .no, .no, .no, .no, .no]
def pB (p : Nat) : Bool := (List.range p).all fun k => (List.range (min (k + 1) 5)).all fun h => isNx 10 (rest2 (r2 p (k + 1) (h + 1)))
theorem pB2 : pB 2 = true := by decide +kernel
theorem pB3 : pB 3 = true := by decide +kernel
theorem pB5 : pB 5 = true := by decide +kernel
theorem pB7 : pB 7 = true := by decide +kernel
theorem pB11 : pB 11 = true := by decide +kernel
theorem pB13 : pB 13 = true := by decide +kernel
theorem last_ok (ρ : Rho) : lastM ρ = .ret (.rt (.bl true)) := by kernel_rfl
end R48

namespace R48
open PySem PySem.Spec PyProof.Rows L2 PL
theorem map_perm {α β : Type} (f : α → β) {xs ys : List β} (h : xs.Perm ys) : ∀ l : List α, xs = l.map f → ∃ ns, ys = ns.map f ∧ l.Perm ns := by
  induction h with
  | nil =>
    intro l e
    have : l = [] := List.map_eq_nil_iff.mp e.symm
    subst this
    exact ⟨[], rfl, List.Perm.refl _⟩
  | cons x h ih =>
    intro l e
    cases l with
    | nil => cases e
    | cons a l =>
      injection e with e1 e2
      obtain ⟨ns, h1, h2⟩ := ih l e2
      exact ⟨a :: ns, by rw [h1, e1]; rfl, List.Perm.cons a h2⟩
  | swap x y l2 =>
    intro l e
    match l, e with
    | [], e => cases e
    | [_], e => injection e with _ e; cases e
    | a :: b :: l, e =>
      injection e with e1 e2
      injection e2 with e2 e3
      exact ⟨b :: a :: l, by rw [e1, e2, e3]; rfl, List.Perm.swap b a l⟩
  | trans h1 h2 ih1 ih2 =>
    intro l e
    obtain ⟨ns, a, b⟩ := ih1 l e
    obtain ⟨ms, c, d⟩ := ih2 ns a
    exact ⟨ms, c, b.trans d⟩
theorem cut_take (rs : List D) (k : Nat) : PL.cutD rs none (some (k : Int)) = rs.take k := by
  unfold PL.cutD
  rw [HT.sIx_none, HT.sIx_nat, List.drop_zero, Nat.sub_zero]
  by_cases h : k ≤ rs.length
  · rw [Nat.min_eq_left h]
  · rw [Nat.min_eq_right (by omega), List.take_length, List.take_of_length_le (by omega)]
theorem wp_mfor {g : Tgt} {mi : Rho → M (List D)} {body : Rho → M Out} {ρ : Rho} {ds : List D} {Q : Out → Prop} (hi : mi ρ = .ret ds) (h : wp (forM g body ds ρ) Q) : wp (mFor g mi body ρ) Q := by
  unfold mFor
  rw [hi]
  exact h
theorem wp_kill {vs : List Nat} {m : Rho → M Out} {ρ ρ' : Rho} {Q : Out → Prop} (e : wipeE ρ vs = ρ') (h : wp (m ρ') Q) : wp (mKill vs m ρ) Q := by
  unfold mKill
  rw [e]
  exact h
theorem wp_sl {g : D → Option Int → Option Int → Option D} {m : Rho → M D} {l h : Rho → M (Option Int)} {ρ : Rho} {Q : D → Prop} (hq : wp (m ρ) fun d => ∃ lo hi, l ρ = .ret lo ∧ h ρ = .ret hi ∧ ∃ z, g d lo hi = some z ∧ Q z) : wp (mSl g m l h ρ) Q := by
  refine wp_bind.mpr (wp_mono hq fun d h1 => ?_)
  obtain ⟨lo, hi, e1, e2, z, e3, q⟩ := h1
  rw [e1, ret_bind, e2, ret_bind, e3]
  exact q
abbrev Goes : Out → Prop := fun o => ∃ xs, o = .nx (.no :: .src :: xs) ∧ xs.length = 10
abbrev ρ0 : Rho := [.no, .src, .no, .no, .no, .no, .no, .no, .no, .no, .no, .no]
/-- the tuples that are drawn -/
theorem drawn {n h : Nat} {rs : List D} (hp : rs.Perm (rgD 0 n)) (hh : h ≤ n) : ∃ t : List Int, rs.take h = t.map .int ∧ t.length = h ∧ t.Nodup ∧ (∀ x ∈ t, 0 ≤ x ∧ x ≤ (n - 1 : Nat)) := by
  have e0 : rgD 0 n = ((List.range n).map fun i : Nat => (i : Int)).map D.int := by
    unfold rgD
    rw [List.map_map, show ((n : Int) - 0).toNat = n by omega]
    refine List.map_congr_left fun i _ => ?_
    show D.int (0 + (i : Int)) = D.int i
    rw [Int.zero_add]
  obtain ⟨ns, e1, e2⟩ := map_perm D.int hp.symm _ e0
  have nd : ns.Nodup := by
    refine e2.nodup_iff.mp ?_
    show List.Pairwise (· ≠ ·) _
    rw [List.pairwise_map]
    exact List.Pairwise.imp (fun h e => h (Int.ofNat.inj e)) (List.nodup_range (n := n))
  have mem : ∀ x ∈ ns, 0 ≤ x ∧ x ≤ (n - 1 : Nat) := fun x hx => by
    have := e2.mem_iff.mpr hx
    obtain ⟨i, hi, rfl⟩ := List.mem_map.mp this
    have := List.mem_range.mp hi
    omega
  have len : ns.length = n := by
    have := e2.length_eq
    simpa using this.symm
  refine ⟨ns.take h, by rw [e1, List.map_take], by rw [List.length_take, len]; omega, nd.sublist (List.take_sublist h ns), fun x hx => mem x (List.mem_of_mem_take hx)⟩
theorem ifs_ok {h bd : Nat} (c : Chk h bd) (hh : h = 1 ∨ h = 2 ∨ h = 3) (tb : tB h bd = true) (eA : ∀ t : List Int, t.length = h → ∃ s3 s4, topA h [.val (tupD t), .no, .no, .no, .no, .no, .no, .no] = .ret (.nx (st h t s3 s4 (V0 h) .no)))
    {t : List Int} (e2 : t.length = h) (e3 : t.Nodup) (e4 : ∀ x ∈ t, 0 ≤ x ∧ x ≤ bd) : ∃ xs, if1 (rt h t) = .ret (.nx (rt h t)) ∧ if2 (rt h t) = .ret (.nx (.no :: .src :: xs)) ∧ xs.length = 10 := by
  have hbox : t ∈ box bd h := by
    have := box_mem (bd := bd) t e4
    rw [e2] at this
    exact this
  have hb := List.all_eq_true.mp tb t hbox
  simp only [Bool.or_eq_true, Bool.not_eq_true', decide_eq_false_iff_not, Bool.and_eq_true, decide_eq_true_eq] at hb
  rcases hb with hb | ⟨⟨⟨⟨h1, h2⟩, h3⟩, h4⟩, h5⟩
  · exact absurd e3 hb
  obtain ⟨s3, s4, eA⟩ := eA t e2
  have et := top_ret c hh t e2 (fun x hx => (e4 x hx).2) h4 h5 s3 s4 eA
  have ef := isI_ok h1
  obtain ⟨s, hs1, hs2⟩ := rne_ok h2
  obtain ⟨xs, ex, hx⟩ := isNx_ok h3
  refine ⟨xs, ?_, ex, hx⟩
  have ea : aCons (vVal 4) aNil (rt h t) = .ret [tupD t] := rfl
  have q1 : mFn 1 fntop_number (aCons (vVal 4) aNil) (rt h t) = .ret (.int (cf t)) := fn_ret ea rfl ef
  have q2 : mFn 1 fn_law_top (aCons (vVal 4) aNil) (rt h t) = .ret (.int (cf t)) := fn_ret ea rfl et
  have q3 : mCall gRepr (aCons (mFn 1 fntop_number (aCons (vVal 4) aNil)) aNil) (rt h t) = .ret s := call_ret (cons_ret q1 rfl) hs1
  have q4 : mCall gRepr (aCons (mFn 1 fn_law_top (aCons (vVal 4) aNil)) aNil) (rt h t) = .ret s := call_ret (cons_ret q2 rfl) hs1
  have ec := b_ret (op_ret (g := gNe) q3 q4 hs2)
  exact if_f ec
def set4 : Rho → M Out := (mSet 4 (mCall gTuple (aCons (mSl gSl (mFnS 1 1 mixFn (aCons (mRgL (aCons (mOp gIx (mLst (aCons (vC (.int 9)) (aCons (vC (.int 7)) (aCons (vC (.int 6)) aNil)))) (mOp (gI fun i j => .int (i - j)) (vVal 3) (vC (.int 1)))) aNil)) aNil)) mNoP (mP (vVal 3))) aNil)))
def ρh (h : Nat) : Rho := [.no, .src, .no, .val (.int h), .no, .no, .no, .no, .no, .no, .no, .no]
def rgM : Rho → M (List D) := aCons (mRgL (aCons (mOp gIx (mLst (aCons (vC (.int 9)) (aCons (vC (.int 7)) (aCons (vC (.int 6)) aNil)))) (mOp (gI fun i j => .int (i - j)) (vVal 3) (vC (.int 1)))) aNil)) aNil
theorem set4_ok {h n : Nat} (hle : h ≤ n) (er : rgM (ρh h) = .ret [.lst (rgD 0 n)]) (hz : (rgD 0 n).length ≤ 100000) {Q : Out → Prop} (q : ∀ t : List Int, t.length = h → t.Nodup → (∀ x ∈ t, 0 ≤ x ∧ x ≤ (n - 1 : Nat)) → Q (.nx (rt h t))) : wp (set4 (ρh h)) Q := by
  refine wp_set (wp_call (wp_cons (wp_sl (wp_mix (d := .lst (rgD 0 n)) (ds := rgD 0 n) rfl er rfl hz fun rs hp => ?_))))
  obtain ⟨t, e1, e2, e3, e4⟩ := drawn hp hle
  have e5 : PL.cutD rs none (some (h : Int)) = t.map .int := by rw [cut_take, e1]
  refine ⟨none, some (h : Int), rfl, rfl, .lst (t.map .int), by rw [← e5]; rfl, ?_⟩
  exact ⟨tupD t, rfl, q t e2 e3 e4⟩
theorem rest1_eq : rest1 = mSeq set4 (mSeq if1 if2) := rfl
theorem seq2 {a b c : Rho → M Out} {ρ : Rho} {Q : Out → Prop} {T : Rho → Prop} (h : ∀ Q' : Out → Prop, (∀ ρ', T ρ' → Q' (.nx ρ')) → wp (a ρ) Q') (h2 : ∀ ρ', T ρ' → wp (mSeq b c ρ') Q) : wp (mSeq a (mSeq b c) ρ) Q :=
  wp_seq (h _ fun ρ' t => ⟨ρ', rfl, h2 ρ' t⟩)
theorem seq3 {b c : Rho → M Out} {ρ ρ1 ρ2 : Rho} {Q : Out → Prop} (h1 : b ρ = .ret (.nx ρ1)) (h2 : c ρ1 = .ret (.nx ρ2)) (q : Q (.nx ρ2)) : wp (mSeq b c ρ) Q := wp_seq (wp_eq h1 ⟨_, rfl, wp_eq h2 q⟩)
def Dr (h n : Nat) (ρ : Rho) : Prop := ∃ t : List Int, ρ = rt h t ∧ t.length = h ∧ t.Nodup ∧ ∀ x ∈ t, 0 ≤ x ∧ x ≤ (n - 1 : Nat)
end R48

namespace R48
open PySem PySem.Spec PyProof.Rows L2 PL
structure TT (h bd : Nat) (ρ : Rho) (t : List Int) : Prop where
  e1 : ρ = rt h t
  e2 : t.length = h
  e3 : t.Nodup
  e4 : ∀ x ∈ t, 0 ≤ x ∧ x ≤ (bd : Int)
def Dr2 (h bd : Nat) (ρ : Rho) : Prop := ∃ t : List Int, TT h bd ρ t
theorem t1 {h n bd : Nat} (hn : bd + 1 = n) (hle : h ≤ n) (er : rgM (ρh h) = .ret [.lst (rgD 0 n)]) (hz : (rgD 0 n).length ≤ 100000) : ∀ Q' : Out → Prop, (∀ ρ', Dr2 h bd ρ' → Q' (.nx ρ')) → wp (set4 (ρh h)) Q' :=
  fun Q' hq => set4_ok hle er hz fun t e2 e3 e4 => hq _ ⟨t, rfl, e2, e3, fun x hx => by have := e4 x hx; omega⟩
structure IfsOk (ρ : Rho) (xs : List PL.Slot) : Prop where
  g1 : if1 ρ = .ret (.nx ρ)
  g2 : if2 ρ = .ret (.nx (.no :: .src :: xs))
  g3 : xs.length = 10
theorem t0 {h bd : Nat} (c : Chk h bd) (hh : h = 1 ∨ h = 2 ∨ h = 3) (tb : tB h bd = true) (eA : ∀ t : List Int, t.length = h → ∃ s3 s4, topA h [.val (tupD t), .no, .no, .no, .no, .no, .no, .no] = .ret (.nx (st h t s3 s4 (V0 h) .no)))
   (ρ : Rho) (t : List Int) (x : TT h bd ρ t) : ∃ xs, IfsOk ρ xs := by
  have q := ifs_ok c hh tb eA x.e2 x.e3 x.e4
  rw [← x.e1] at q
  exact Exists.elim q fun xs g => Exists.intro xs (IfsOk.mk g.1 g.2.1 g.2.2)
theorem t3 {ρ : Rho} {xs : List PL.Slot} (g : IfsOk ρ xs) : wp (mSeq if1 if2 ρ) Goes := seq3 (Q := Goes) g.g1 g.g2 (Exists.intro xs (And.intro rfl g.g3))
theorem t2 {h bd : Nat} (c : Chk h bd) (hh : h = 1 ∨ h = 2 ∨ h = 3) (tb : tB h bd = true) (eA : ∀ t : List Int, t.length = h → ∃ s3 s4, topA h [.val (tupD t), .no, .no, .no, .no, .no, .no, .no] = .ret (.nx (st h t s3 s4 (V0 h) .no))) : ∀ ρ', Dr2 h bd ρ' → wp (mSeq if1 if2 ρ') Goes :=
  fun ρ' h => Exists.elim h fun t e => Exists.elim (t0 c hh tb eA ρ' t e) fun xs g => t3 g
theorem rest1_ok {h n bd : Nat} (hn : bd + 1 = n) (c : Chk h bd) (hh : h = 1 ∨ h = 2 ∨ h = 3) (hle : h ≤ n) (tb : tB h bd = true) (er : rgM (ρh h) = .ret [.lst (rgD 0 n)])
    (hz : (rgD 0 n).length ≤ 100000) (eA : ∀ t : List Int, t.length = h → ∃ s3 s4, topA h [.val (tupD t), .no, .no, .no, .no, .no, .no, .no] = .ret (.nx (st h t s3 s4 (V0 h) .no))) :
    wp (mSeq set4 (mSeq if1 if2) (ρh h)) Goes := seq2 (T := Dr2 h bd) (t1 hn hle er hz) (t2 c hh tb eA)
end R48

namespace R48
open PySem PySem.Spec PyProof.Rows L2 PL
theorem eA1 (t : List Int) (h : t.length = 1) : ∃ s3 s4, topA 1 [.val (tupD t), .no, .no, .no, .no, .no, .no, .no] = .ret (.nx (st 1 t s3 s4 (V0 1) .no)) := by
  match t, h with
  | [a], _ => exact ⟨_, _, topA1 a⟩
theorem eA2 (t : List Int) (h : t.length = 2) : ∃ s3 s4, topA 2 [.val (tupD t), .no, .no, .no, .no, .no, .no, .no] = .ret (.nx (st 2 t s3 s4 (V0 2) .no)) := by
  match t, h with
  | [a, b], _ => exact ⟨_, _, topA2 a b⟩
theorem eA3 (t : List Int) (h : t.length = 3) : ∃ s3 s4, topA 3 [.val (tupD t), .no, .no, .no, .no, .no, .no, .no] = .ret (.nx (st 3 t s3 s4 (V0 3) .no)) := by
  match t, h with
  | [a, b, c], _ => exact ⟨_, _, topA3 a b c⟩
def set3 : Rho → M Out := (mSet 3 (mOp gAdd (vC (.int 1)) (mFnS 1 1 pickFn (aCons (vC (.int 3)) aNil))))
theorem set3_ok {Q : Out → Prop} (q : ∀ h : Nat, h = 1 ∨ h = 2 ∨ h = 3 → Q (.nx (ρh h))) : wp (set3 ρ0) Q := by
  refine wp_set (wp_op (wp_ret.mpr (wp_pick (most := 3) rfl rfl (by decide) fun j h0 h1 => ?_)))
  refine ⟨.int (1 + j), rfl, ?_⟩
  have hj : j = 0 ∨ j = 1 ∨ j = 2 := by omega
  rcases hj with rfl | rfl | rfl
  · exact q 1 (.inl rfl)
  · exact q 2 (.inr (.inl rfl))
  · exact q 3 (.inr (.inr rfl))
theorem er1 : rgM (ρh 1) = .ret [.lst (rgD 0 9)] := by kernel_rfl
theorem er2 : rgM (ρh 2) = .ret [.lst (rgD 0 7)] := by kernel_rfl
theorem er3 : rgM (ρh 3) = .ret [.lst (rgD 0 6)] := by kernel_rfl
theorem z9 : (rgD 0 9).length ≤ 100000 := by decide +kernel
theorem z7 : (rgD 0 7).length ≤ 100000 := by decide +kernel
theorem z6 : (rgD 0 6).length ≤ 100000 := by decide +kernel
theorem ra1 : wp (mSeq set4 (mSeq if1 if2) (ρh 1)) Goes := rest1_ok (h := 1) (n := 9) (bd := 8) (by decide) chk1 (by decide) (by decide) tB1 er1 z9 eA1
theorem ra2 : wp (mSeq set4 (mSeq if1 if2) (ρh 2)) Goes := rest1_ok (h := 2) (n := 7) (bd := 6) (by decide) chk2 (by decide) (by decide) tB2 er2 z7 eA2
theorem ra3 : wp (mSeq set4 (mSeq if1 if2) (ρh 3)) Goes := rest1_ok (h := 3) (n := 6) (bd := 5) (by decide) chk3 (by decide) (by decide) tB3 er3 z6 eA3
theorem rest_all (h : Nat) (hh : h = 1 ∨ h = 2 ∨ h = 3) : wp (mSeq set4 (mSeq if1 if2) (ρh h)) Goes :=
  Or.elim hh (fun e => by rw [e]; exact ra1) fun hh => Or.elim hh (fun e => by rw [e]; exact ra2) fun e => by rw [e]; exact ra3
structure Hs (ρ : Rho) : Prop where
  ex : ∃ h : Nat, ρ = ρh h ∧ (h = 1 ∨ h = 2 ∨ h = 3)
theorem seq4 {a b : Rho → M Out} {ρ : Rho} {Q : Out → Prop} {T : Rho → Prop} (h : ∀ Q' : Out → Prop, (∀ ρ', T ρ' → Q' (.nx ρ')) → wp (a ρ) Q') (h2 : ∀ ρ', T ρ' → wp (b ρ') Q) : wp (mSeq a b ρ) Q :=
  wp_seq (h _ fun ρ' t => ⟨ρ', rfl, h2 ρ' t⟩)
def body1 : Rho → M Out := mSeq set3 (mSeq set4 (mSeq if1 if2))
theorem rest_hs (ρ : Rho) (hs : Hs ρ) : wp (mSeq set4 (mSeq if1 if2) ρ) Goes := Exists.elim hs.ex fun h he => @Eq.rec Rho (ρh h) (fun ρ' _ => wp (mSeq set4 (mSeq if1 if2) ρ') Goes) (@rest_all h he.2) ρ he.1.symm
set_option maxHeartbeats 4000000 in
theorem body1_ok : wp (body1 ρ0) Goes := @seq4 set3 (mSeq set4 (mSeq if1 if2)) ρ0 Goes Hs (fun Q' hq => set3_ok fun h hh => hq _ ⟨⟨h, rfl, hh⟩⟩) @rest_hs
/-! ### the second loop -/
def set5 : Rho → M Out := (mSet 5 (mFnS 1 1 fn_law_of (aCons (mLst (aCons (vC (.int 2)) (aCons (vC (.int 3)) (aCons (vC (.int 5)) (aCons (vC (.int 7)) (aCons (vC (.int 11)) (aCons (vC (.int 13)) aNil))))))) aNil)))
def set6 : Rho → M Out := (mSet 6 (mOp gAdd (vC (.int 1)) (mFnS 1 1 pickFn (aCons (vVal 5) aNil))))
def set3b : Rho → M Out := (mSet 3 (mOp gAdd (vC (.int 1)) (mFnS 1 1 pickFn (aCons (mCall gMin2 (aCons (vVal 6) (aCons (vC (.int 5)) aNil))) aNil))))
def body2 : Rho → M Out := mSeq set5 (mSeq set6 (mSeq set3b rest2))
def ρp (p : Nat) : Rho := [.no, .src, .no, .no, .no, .val (.int p), .no, .no, .no, .no, .no, .no]
def ρk (p k : Nat) : Rho := [.no, .src, .no, .no, .no, .val (.int p), .val (.int k), .no, .no, .no, .no, .no]
def isP (p : Nat) : Prop := p = 2 ∨ p = 3 ∨ p = 5 ∨ p = 7 ∨ p = 11 ∨ p = 13
structure Ps (ρ : Rho) : Prop where
  ex : ∃ p : Nat, ρ = ρp p ∧ isP p
structure Ks (ρ : Rho) : Prop where
  ex : ∃ p k : Nat, ρ = ρk p (k + 1) ∧ isP p ∧ k < p
structure Rs (ρ : Rho) : Prop where
  ex : ∃ p k h : Nat, ρ = r2 p (k + 1) (h + 1) ∧ isP p ∧ k < p ∧ h < min (k + 1) 5
theorem set5_ok {Q : Out → Prop} (q : ∀ ρ', Ps ρ' → Q (.nx ρ')) : wp (set5 ρ0) Q := by
  refine wp_set (wp_fnS rfl (wp_eq (a := [.lst [.int 2, .int 3, .int 5, .int 7, .int 11, .int 13]]) rfl ⟨rfl, ?_⟩))
  refine wp_fnOf (wp_retS (wp_op (wp_ret.mpr (wp_pick (most := 6) rfl rfl (by decide) fun j h0 h1 => ?_))))
  have hj : j = 0 ∨ j = 1 ∨ j = 2 ∨ j = 3 ∨ j = 4 ∨ j = 5 := by omega
  rcases hj with rfl | rfl | rfl | rfl | rfl | rfl
  · exact ⟨.int 2, rfl, _, rfl, q (ρp 2) ⟨⟨2, rfl, .inl rfl⟩⟩⟩
  · exact ⟨.int 3, rfl, _, rfl, q (ρp 3) ⟨⟨3, rfl, .inr (.inl rfl)⟩⟩⟩
  · exact ⟨.int 5, rfl, _, rfl, q (ρp 5) ⟨⟨5, rfl, .inr (.inr (.inl rfl))⟩⟩⟩
  · exact ⟨.int 7, rfl, _, rfl, q (ρp 7) ⟨⟨7, rfl, .inr (.inr (.inr (.inl rfl)))⟩⟩⟩
  · exact ⟨.int 11, rfl, _, rfl, q (ρp 11) ⟨⟨11, rfl, .inr (.inr (.inr (.inr (.inl rfl))))⟩⟩⟩
  · exact ⟨.int 13, rfl, _, rfl, q (ρp 13) ⟨⟨13, rfl, .inr (.inr (.inr (.inr (.inr rfl))))⟩⟩⟩
theorem isP_le {p : Nat} (h : isP p) : 2 ≤ p ∧ p ≤ 13 := by
  unfold isP at h
  omega
theorem set6_ok {p : Nat} (hp : isP p) {Q : Out → Prop} (q : ∀ ρ', Ks ρ' → Q (.nx ρ')) : wp (set6 (ρp p)) Q := by
  have hl := isP_le hp
  refine wp_set (wp_op (wp_ret.mpr (wp_pick (most := p) rfl rfl (log_small (by omega)) fun j h0 h1 => ?_)))
  refine ⟨.int (1 + j), rfl, ?_⟩
  have e : (1 : Int) + j = ((j.toNat + 1 : Nat) : Int) := by omega
  rw [e]
  exact q (ρk p (j.toNat + 1)) ⟨⟨p, j.toNat, rfl, hp, by omega⟩⟩
theorem set3b_ok {p k : Nat} (hp : isP p) (hk : k < p) {Q : Out → Prop} (q : ∀ ρ', Rs ρ' → Q (.nx ρ')) : wp (set3b (ρk p (k + 1))) Q := by
  have hl := isP_le hp
  have hm : ((if (5 : Int) < ((k + 1 : Nat) : Int) then 5 else ((k + 1 : Nat) : Int))) = ((min (k + 1) 5 : Nat) : Int) := by
    split <;> omega
  refine wp_set (wp_op (wp_ret.mpr (wp_pick (most := ((min (k + 1) 5 : Nat) : Int)) rfl ?_ (log_small (by omega)) fun j h0 h1 => ?_)))
  · refine cons_ret (x := .int ((min (k + 1) 5 : Nat) : Int)) ?_ rfl
    rw [← hm]
    rfl
  · refine ⟨.int (1 + j), rfl, ?_⟩
    have e : (1 : Int) + j = ((j.toNat + 1 : Nat) : Int) := by omega
    rw [e]
    exact q (r2 p (k + 1) (j.toNat + 1)) ⟨⟨p, k, j.toNat, rfl, hp, hk, by omega⟩⟩
theorem rest2_ok {ρ : Rho} (h : Rs ρ) : wp (rest2 ρ) Goes := by
  obtain ⟨⟨p, k, h, e, hp, hk, hh⟩⟩ := h
  have key : ∀ p, pB p = true → k < p → ∃ xs, rest2 (r2 p (k + 1) (h + 1)) = .ret (.nx (.no :: .src :: xs)) ∧ xs.length = 10 := fun p hp hk =>
    isNx_ok (List.all_eq_true.mp (List.all_eq_true.mp hp _ (List.mem_range.mpr hk)) _ (List.mem_range.mpr hh))
  have : ∃ xs, rest2 (r2 p (k + 1) (h + 1)) = .ret (.nx (.no :: .src :: xs)) ∧ xs.length = 10 := by
    rcases hp with rfl | rfl | rfl | rfl | rfl | rfl
    · exact key _ pB2 hk
    · exact key _ pB3 hk
    · exact key _ pB5 hk
    · exact key _ pB7 hk
    · exact key _ pB11 hk
    · exact key _ pB13 hk
  rw [← e] at this
  exact Exists.elim this fun xs g => wp_eq g.1 (Exists.intro xs (And.intro rfl g.2))
theorem body2_ok : wp (body2 ρ0) Goes :=
  seq4 (T := Ps) (fun Q' hq => set5_ok hq) fun ρ1 ⟨⟨p, e1, hp⟩⟩ => by
    rw [e1]
    refine seq4 (T := Ks) (fun Q' hq => set6_ok hp hq) fun ρ2 ⟨⟨p, k, e2, hp, hk⟩⟩ => ?_
    rw [e2]
    exact seq4 (T := Rs) (fun Q' hq => set3b_ok hp hk hq) fun ρ3 h => rest2_ok h
/-! ### all -/
def ks : List Nat := [2, 3, 4, 5, 6, 7, 8, 9, 10, 11]
theorem loop_ok {body : Rho → M Out} (hb : wp (body ρ0) Goes) : ∀ (ds : List D) (xs : List PL.Slot), xs.length = 10 → wp (forM (gN 2) (mKill ks body) ds (.no :: .src :: xs)) Goes := by
  intro ds xs hx
  refine wp_for (fun _ ρ => ∃ xs, ρ = .no :: .src :: xs ∧ xs.length = 10) ?_ (fun ρ ⟨xs, e, hx⟩ => ⟨xs, by rw [e], hx⟩) ds _ ⟨xs, rfl, hx⟩
  rintro d ds ρ ⟨xs, rfl, hx⟩
  refine ⟨_, rfl, ?_⟩
  match xs, hx with
  | [a0, a1, a2, a3, a4, a5, a6, a7, a8, a9], _ =>
    refine wp_kill (ρ' := ρ0) rfl (wp_mono hb ?_)
    rintro o ⟨xs, rfl, hx⟩
    exact ⟨xs, rfl, hx⟩
theorem loopm {mi : Rho → M (List D)} {body : Rho → M Out} {ds : List D} (hi : ∀ ρ, mi ρ = .ret ds) (hb : wp (body ρ0) Goes) (xs : List PL.Slot) (hx : xs.length = 10) : wp (mFor (gN 2) mi (mKill ks body) (.no :: .src :: xs)) Goes :=
  wp_mfor (hi _) (loop_ok hb ds xs hx)
structure Sh (ρ : Rho) : Prop where
  ex : ∃ xs, ρ = .no :: .src :: xs ∧ xs.length = 10
theorem loopS {mi : Rho → M (List D)} {body : Rho → M Out} {ds : List D} (hi : ∀ ρ, mi ρ = .ret ds) (hb : wp (body ρ0) Goes) {ρ : Rho} (h : Sh ρ) (Q' : Out → Prop) (hq : ∀ ρ', Sh ρ' → Q' (.nx ρ')) : wp (mFor (gN 2) mi (mKill ks body) ρ) Q' := by
  obtain ⟨⟨xs, e, hx⟩⟩ := h
  rw [e]
  exact wp_mono (loopm hi hb xs hx) fun o ⟨xs, e, hx⟩ => by rw [e]; exact hq _ ⟨⟨xs, rfl, hx⟩⟩
def mi4 : Rho → M (List D) := mRng1 (aCons (vC (.int 4)) aNil)
def mi6 : Rho → M (List D) := mRng1 (aCons (vC (.int 6)) aNil)
theorem rg4 (ρ : Rho) : mi4 ρ = .ret (rangeD 0 4) := by kernel_rfl
theorem rg6 (ρ : Rho) : mi6 ρ = .ret (rangeD 0 6) := by kernel_rfl
theorem mlaw_eq : mlaw = mSeq (mFor (gN 2) mi4 (mKill ks body1)) (mSeq (mFor (gN 2) mi6 (mKill ks body2)) lastM) := rfl
theorem fin_ok (ρ : Rho) : wp (lastM ρ) fun o => o = .rt (.bl true) := wp_eq (last_ok ρ) rfl
theorem two {a b c : Rho → M Out} {Q : Out → Prop} {ρ : Rho} (h : Sh ρ) (ha : ∀ {ρ : Rho}, Sh ρ → ∀ Q' : Out → Prop, (∀ ρ', Sh ρ' → Q' (.nx ρ')) → wp (a ρ) Q') (hb : ∀ {ρ : Rho}, Sh ρ → ∀ Q' : Out → Prop, (∀ ρ', Sh ρ' → Q' (.nx ρ')) → wp (b ρ) Q') (hc : ∀ ρ, wp (c ρ) Q) : wp (mSeq a (mSeq b c) ρ) Q :=
  seq4 (T := Sh) (ha h) fun ρ1 h1 => seq4 (T := Sh) (hb h1) fun ρ2 _ => hc ρ2
end R48

namespace R48
open PySem PySem.Spec PyProof.Rows L2 PL
structure W2 (m : Rho → M Out) (ρ : Rho) (Q : Out → Prop) : Prop where
  ok : wp (m ρ) Q
structure LoopOk (a : Rho → M Out) : Prop where
  ok : ∀ {ρ : Rho}, Sh ρ → ∀ Q' : Out → Prop, (∀ ρ', Sh ρ' → Q' (.nx ρ')) → wp (a ρ) Q'
theorem loopok {mi : Rho → M (List D)} {body : Rho → M Out} {ds : List D} (hi : ∀ ρ, mi ρ = .ret ds) (hb : W2 body ρ0 Goes) : LoopOk (mFor (gN 2) mi (mKill ks body)) := ⟨fun h Q' hq => loopS hi hb.ok h Q' hq⟩
theorem b1 : W2 body1 ρ0 Goes := W2.mk body1_ok
theorem b2 : W2 body2 ρ0 Goes := W2.mk body2_ok
theorem b3 (ρ : Rho) : W2 lastM ρ (fun o => o = .rt (.bl true)) := W2.mk (fin_ok ρ)
theorem two' {a b c : Rho → M Out} {Q : Out → Prop} {ρ : Rho} (h : Sh ρ) (ha : LoopOk a) (hb : LoopOk b) (hc : ∀ ρ, W2 c ρ Q) : W2 (mSeq a (mSeq b c)) ρ Q := ⟨two h ha.ok hb.ok fun ρ => (hc ρ).ok⟩
theorem sh0 : Sh ρ0 := Sh.mk (Exists.intro [.no, .no, .no, .no, .no, .no, .no, .no, .no, .no] (And.intro rfl rfl))
theorem law_w : W2 mlaw ρ0 (fun o => o = .rt (.bl true)) := by
  rw [mlaw_eq]
  exact two' sh0 (loopok rg4 b1) (loopok rg6 b2) b3
end R48

namespace R48
open PySem PySem.Spec PyProof.Rows L2 PL
section
variable {P : Program} {w : World} {K : PySem.W.Frag} {mg : Str → Option Value} {base : Heap}
theorem law_tr {m : Rho → M Out} {N : List Str} {H : Hp} {p : Addr × Addr} {a : Addr} {cells : List Int} {l mx t : Int} {n : Nat} {E : Ends} (pa : PAt H p cells l mx t) (hn : N.length = n + 2) (hE : ∀ H', E.rt (.bl true) H')
    (hm : W2 m (.no :: .src :: List.replicate n .no) (fun o => o = .rt (.bl true))) : ∃ S, tS K w S m E ((L2.start N [.ref a]).set 1 (some (.ref p.1))) H := law_true pa hn hE hm.ok
theorem law_w' : W2 mlaw (.no :: .src :: List.replicate 10 .no) (fun o => o = .rt (.bl true)) := law_w
theorem ok_law (E : Facts K mg) {f : Addr} {fd : FuncData} (F : Fun K "law" "law" slaw f fd) : FnG P w K mg base 3 f fd ["script"] (spLaw K) := by
  have Hp0 := ok_pick (P := P) (w := w) (base := base) (k := 0) E.F_law_pick E.z_len E.z_int
  have Hp := pick_fn Hp0
  have Hs := ok_source (P := P) (w := w) (base := base) (k := 0) E.F_law_source E.z_abs E.z_int
  have Hm := ok_mixed (k := 1) E.F_law_mixed Hp0 E.g_law_pick E.F_law_pick.kp E.b_law_pick E.z_len E.z_list E.z_range
  have Ho := ok_law_of E Hp
  have Ht := oktop_number (P := P) (w := w) (base := base) E
  have Hd := oktold_powers (P := P) (w := w) (base := base) E
  have Hr := ok_law_product (P := P) (w := w) (base := base) E
  have Hq := ok_law_top E Hr
  refine fnG_of F sclaw (fun vs H Q h => by obtain ⟨a, ns, rfl, _⟩ := h; rfl) fun cdv A outer s H vs Q hr hgd h => ?_
  obtain ⟨a, ns, rfl, hs, hl, q⟩ := h
  refine ⟨_, pss_cons (ps_set (i := 1) sclaw.nd rfl (.inl rfl) (pe_g (Hs.up (by decide : 1 ≤ 2)) hr hgd (by rfl) E.g_law_source E.F_law_source.kp E.b_law_source (pa_cons (pv 0) pa_nil)))
    (pss_any fun S => body_law E Ho Hd Hp Ht Hm Hq hr hgd), ?_⟩
  exact ⟨_, rfl, a, ns, rfl, hs, hl, fun p cells l m t H' pa => law_tr pa rfl (fun H' => q H') law_w'⟩
end
/-! ### what the top has written -/
theorem all_mk {l : PySem.W.OpenLaw} {w : World} {K : PySem.W.Frag} {h : Heap} {mg : Str → Option Value} {fa f0 f1 f2 f3 f4 f5 f6 f7 f8 : Addr} (X : K.In h) (G : h.Ns mainGlobals mg) (hfa : mg "law" = some (.ref fa))
    {od0 an0 od1 an1 od2 an2 od3 an3 od4 an4 od5 an5 od6 an6 od7 an7 od8 an8 : Option Addr} {sl0 sl1 sl2 sl3 sl4 sl5 sl6 sl7 sl8 : Array (Option Value)} {oc0 kV0 dc0 pm0 cd0 ct0 oc1 kV1 dc1 pm1 cd1 ct1 oc2 kV2 dc2 pm2 cd2 ct2 oc3 kV3 dc3 pm3 cd3 ct3 oc4 kV4 dc4 pm4 cd4 ct4 oc5 kV5 dc5 pm5 cd5 ct5 oc6 kV6 dc6 pm6 cd6 ct6 oc7 kV7 dc7 pm7 cd7 ct7 oc8 kV8 dc8 pm8 cd8 ct8 : Value}
    (a0 : PySem.W.nsIn K mainGlobals "top_number" = some (some (.ref f0))) (l0 : K.lookup f0 = some ⟨oc0, od0, .func (PySem.W.fnOf "top_number" "top_number" (defArgs stop_number) (defBody stop_number) (defScope stop_number) .none kV0 dc0 pm0 an0 cd0 ct0), sl0⟩) (c0 : PySem.W.codeIn K cd0 "top_number" = true) (k0 : PySem.W.keepIn K (.ref f0) = true)
    (a1 : PySem.W.nsIn K mainGlobals "told_powers" = some (some (.ref f1))) (l1 : K.lookup f1 = some ⟨oc1, od1, .func (PySem.W.fnOf "told_powers" "told_powers" (defArgs stold_powers) (defBody stold_powers) (defScope stold_powers) .none kV1 dc1 pm1 an1 cd1 ct1), sl1⟩) (c1 : PySem.W.codeIn K cd1 "told_powers" = true) (k1 : PySem.W.keepIn K (.ref f1) = true)
    (a2 : PySem.W.nsIn K mainGlobals "_law_source" = some (some (.ref f2))) (l2 : K.lookup f2 = some ⟨oc2, od2, .func (PySem.W.fnOf "_law_source" "_law_source" (defArgs s_law_source) (defBody s_law_source) (defScope s_law_source) .none kV2 dc2 pm2 an2 cd2 ct2), sl2⟩) (c2 : PySem.W.codeIn K cd2 "_law_source" = true) (k2 : PySem.W.keepIn K (.ref f2) = true)
    (a3 : PySem.W.nsIn K mainGlobals "_law_pick" = some (some (.ref f3))) (l3 : K.lookup f3 = some ⟨oc3, od3, .func (PySem.W.fnOf "_law_pick" "_law_pick" (defArgs s_law_pick) (defBody s_law_pick) (defScope s_law_pick) .none kV3 dc3 pm3 an3 cd3 ct3), sl3⟩) (c3 : PySem.W.codeIn K cd3 "_law_pick" = true) (k3 : PySem.W.keepIn K (.ref f3) = true)
    (a4 : PySem.W.nsIn K mainGlobals "_law_of" = some (some (.ref f4))) (l4 : K.lookup f4 = some ⟨oc4, od4, .func (PySem.W.fnOf "_law_of" "_law_of" (defArgs s_law_of) (defBody s_law_of) (defScope s_law_of) .none kV4 dc4 pm4 an4 cd4 ct4), sl4⟩) (c4 : PySem.W.codeIn K cd4 "_law_of" = true) (k4 : PySem.W.keepIn K (.ref f4) = true)
    (a5 : PySem.W.nsIn K mainGlobals "_law_mixed" = some (some (.ref f5))) (l5 : K.lookup f5 = some ⟨oc5, od5, .func (PySem.W.fnOf "_law_mixed" "_law_mixed" (defArgs s_law_mixed) (defBody s_law_mixed) (defScope s_law_mixed) .none kV5 dc5 pm5 an5 cd5 ct5), sl5⟩) (c5 : PySem.W.codeIn K cd5 "_law_mixed" = true) (k5 : PySem.W.keepIn K (.ref f5) = true)
    (a6 : PySem.W.nsIn K mainGlobals "_law_product" = some (some (.ref f6))) (l6 : K.lookup f6 = some ⟨oc6, od6, .func (PySem.W.fnOf "_law_product" "_law_product" (defArgs s_law_product) (defBody s_law_product) (defScope s_law_product) .none kV6 dc6 pm6 an6 cd6 ct6), sl6⟩) (c6 : PySem.W.codeIn K cd6 "_law_product" = true) (k6 : PySem.W.keepIn K (.ref f6) = true)
    (a7 : PySem.W.nsIn K mainGlobals "_law_top" = some (some (.ref f7))) (l7 : K.lookup f7 = some ⟨oc7, od7, .func (PySem.W.fnOf "_law_top" "_law_top" (defArgs s_law_top) (defBody s_law_top) (defScope s_law_top) .none kV7 dc7 pm7 an7 cd7 ct7), sl7⟩) (c7 : PySem.W.codeIn K cd7 "_law_top" = true) (k7 : PySem.W.keepIn K (.ref f7) = true)
    (a8 : PySem.W.nsIn K mainGlobals "law" = some (some (.ref f8))) (l8 : K.lookup f8 = some ⟨oc8, od8, .func (PySem.W.fnOf "law" "law" (defArgs slaw) (defBody slaw) (defScope slaw) .none kV8 dc8 pm8 an8 cd8 ct8), sl8⟩) (c8 : PySem.W.codeIn K cd8 "law" = true) (k8 : PySem.W.keepIn K (.ref f8) = true)
    (z_abs : PySem.W.nsIn K mainGlobals "abs" = some none)
    (z_dict : PySem.W.nsIn K mainGlobals "dict" = some none)
    (z_int : PySem.W.nsIn K mainGlobals "int" = some none)
    (z_isinstance : PySem.W.nsIn K mainGlobals "isinstance" = some none)
    (z_len : PySem.W.nsIn K mainGlobals "len" = some none)
    (z_list : PySem.W.nsIn K mainGlobals "list" = some none)
    (z_min : PySem.W.nsIn K mainGlobals "min" = some none)
    (z_range : PySem.W.nsIn K mainGlobals "range" = some none)
    (z_repr : PySem.W.nsIn K mainGlobals "repr" = some none)
    (z_sum : PySem.W.nsIn K mainGlobals "sum" = some none)
    (z_tuple : PySem.W.nsIn K mainGlobals "tuple" = some none)
    (z_zip : PySem.W.nsIn K mainGlobals "zip" = some none)
    : ∃ fd : FuncData, (∀ (s : Shared) (v : Value), BindsTo s fd ⟨[v], []⟩ [("script", v)]) ∧ ∀ base : Heap, K.In base → base.Ns mainGlobals mg → FnG l.prog w K mg base 3 fa fd ["script"] (spLaw K) := by
  have e := hfa.symm.trans (PySem.W.mg_of X G a8)
  cases e
  have F0 := fun_mk (st := stop_number) l0 c0 k0
  have F1 := fun_mk (st := stold_powers) l1 c1 k1
  have F2 := fun_mk (st := s_law_source) l2 c2 k2
  have F3 := fun_mk (st := s_law_pick) l3 c3 k3
  have F4 := fun_mk (st := s_law_of) l4 c4 k4
  have F5 := fun_mk (st := s_law_mixed) l5 c5 k5
  have F6 := fun_mk (st := s_law_product) l6 c6 k6
  have F7 := fun_mk (st := s_law_top) l7 c7 k7
  have F8 := fun_mk (st := slaw) l8 c8 k8
  have b0 := F0.binds (ps := ["t"]) fun _ _ _ _ _ _ us hl => match us, hl with | [_], _ => rfl
  have b1 := F1.binds (ps := ["p", "k", "h"]) fun _ _ _ _ _ _ us hl => match us, hl with | [_, _, _], _ => rfl
  have b2 := F2.binds (ps := ["script"]) fun _ _ _ _ _ _ us hl => match us, hl with | [_], _ => rfl
  have b3 := F3.binds (ps := ["source", "most"]) fun _ _ _ _ _ _ us hl => match us, hl with | [_, _], _ => rfl
  have b4 := F4.binds (ps := ["source", "some"]) fun _ _ _ _ _ _ us hl => match us, hl with | [_, _], _ => rfl
  have b5 := F5.binds (ps := ["source", "things"]) fun _ _ _ _ _ _ us hl => match us, hl with | [_, _], _ => rfl
  have b6 := F6.binds (ps := ["one", "other"]) fun _ _ _ _ _ _ us hl => match us, hl with | [_, _], _ => rfl
  have b7 := F7.binds (ps := ["t"]) fun _ _ _ _ _ _ us hl => match us, hl with | [_], _ => rfl
  have E : Facts K mg := { z_abs := PySem.W.mg_none_of X G z_abs, z_dict := PySem.W.mg_none_of X G z_dict, z_int := PySem.W.mg_none_of X G z_int, z_isinstance := PySem.W.mg_none_of X G z_isinstance, z_len := PySem.W.mg_none_of X G z_len, z_list := PySem.W.mg_none_of X G z_list, z_min := PySem.W.mg_none_of X G z_min, z_range := PySem.W.mg_none_of X G z_range, z_repr := PySem.W.mg_none_of X G z_repr, z_sum := PySem.W.mg_none_of X G z_sum, z_tuple := PySem.W.mg_none_of X G z_tuple, z_zip := PySem.W.mg_none_of X G z_zip, ftop_number := f0, dtop_number := _, Ftop_number := F0, btop_number := b0, gtop_number := PySem.W.mg_of X G a0, ftold_powers := f1, dtold_powers := _, Ftold_powers := F1, btold_powers := b1, gtold_powers := PySem.W.mg_of X G a1, f_law_source := f2, d_law_source := _, F_law_source := F2, b_law_source := b2, g_law_source := PySem.W.mg_of X G a2, f_law_pick := f3, d_law_pick := _, F_law_pick := F3, b_law_pick := b3, g_law_pick := PySem.W.mg_of X G a3, f_law_of := f4, d_law_of := _, F_law_of := F4, b_law_of := b4, g_law_of := PySem.W.mg_of X G a4, f_law_mixed := f5, d_law_mixed := _, F_law_mixed := F5, b_law_mixed := b5, g_law_mixed := PySem.W.mg_of X G a5, f_law_product := f6, d_law_product := _, F_law_product := F6, b_law_product := b6, g_law_product := PySem.W.mg_of X G a6, f_law_top := f7, d_law_top := _, F_law_top := F7, b_law_top := b7, g_law_top := PySem.W.mg_of X G a7 }
  exact ⟨PySem.W.fnOf "law" "law" (defArgs slaw) (defBody slaw) (defScope slaw) .none kV8 dc8 pm8 an8 cd8 ct8, fun s v => .of_eq rfl, fun base _ _ => ok_law E F8⟩
end R48
open PySem PySem.W PyProof.Rows
set_option maxHeartbeats 0 in
theorem PySem.Challenge.cw_restsadded_k48_whole_top_numbers_holds : PySem.Challenge.rw_restsadded_k48_whole_top_numbers.Holds := by
  w_on; o_law; k_head; (case hw => w_witness2)
  k_fill
  refine PL.end_row (l := PySem.Challenge.rw_restsadded_k48_whole_top_numbers) (k := 3) rfl rfl ⟨rfl, by decide, by decide⟩ (fun w h Y => PySem.W.kIn_of Y) ?F
  case F =>
    intro w mg fa h KX G hmg
    refine' R48.all_mk KX G hmg ?a0 ?l0 ?c0 ?k0 ?a1 ?l1 ?c1 ?k1 ?a2 ?l2 ?c2 ?k2 ?a3 ?l3 ?c3 ?k3 ?a4 ?l4 ?c4 ?k4 ?a5 ?l5 ?c5 ?k5 ?a6 ?l6 ?c6 ?k6 ?a7 ?l7 ?c7 ?k7 ?a8 ?l8 ?c8 ?k8 ?z_abs ?z_dict ?z_int ?z_isinstance ?z_len ?z_list ?z_min ?z_range ?z_repr ?z_sum ?z_tuple ?z_zip
    (case a0 => k_is); (case l0 => k_is); (case c0 => k_is); (case k0 => k_is); (case a1 => k_is); (case l1 => k_is); (case c1 => k_is); (case k1 => k_is); (case a2 => k_is); (case l2 => k_is); (case c2 => k_is); (case k2 => k_is); (case a3 => k_is); (case l3 => k_is); (case c3 => k_is); (case k3 => k_is); (case a4 => k_is); (case l4 => k_is); (case c4 => k_is); (case k4 => k_is); (case a5 => k_is); (case l5 => k_is); (case c5 => k_is); (case k5 => k_is); (case a6 => k_is); (case l6 => k_is); (case c6 => k_is); (case k6 => k_is); (case a7 => k_is); (case l7 => k_is); (case c7 => k_is); (case k7 => k_is); (case a8 => k_is); (case l8 => k_is); (case c8 => k_is); (case k8 => k_is); (case z_abs => k_is); (case z_dict => k_is); (case z_int => k_is); (case z_isinstance => k_is); (case z_len => k_is); (case z_list => k_is); (case z_min => k_is); (case z_range => k_is); (case z_repr => k_is); (case z_sum => k_is); (case z_tuple => k_is); (case z_zip => k_is)

